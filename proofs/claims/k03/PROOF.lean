import PyProof.Rows.All
import Wide.All
import OpenK.AllK
import Wide.FinOn
import HandS.ForMost
import HandS.Strs
import HandS.ForExc
import HandS.TupAny
import HandS.TupMul
import HandS.TupLe
import HandS.Conv
import HandS.IsInst
import HandS.Lambda
import KE.KDictKeyed
import HandS.Defaults
import HandS.ExcCtx
import HandS.More
import PyProof.EnumMake
import PyProof.Draws
import KE.GoesMore
import HandS.Iter
import HandS.Text
import HandS.FStr
import HandS.Deep
import PyProof.P3In
import KE.KExcInit
import HandS.TryOnly
import HandS.ExcInit
import KE.KStateDown
import HandS.Base
import HandS.Call
import HandS.Ends
import HandS.Words
import HandS.WordsExc
import HandS.Head0
import HandS.Head1
import HandS.Head2
import HandS.HeadEnd
import HandS.HeadHook1
import HandS.HeadHook2
import HandS.HeadHook3
import HandS.HeadHook4
import HandS.HotCalls
import HandS.TryMany
import KE.KTryMore
import HandS.Zip
import HandS.ExcIs
import HandS.ExcField
import HandS.RaiseMore
import PyProof.ReprRoads
import HandS.EndTab
import HandS.HeadWalk
import KE.KLam
import HandS.SortInts
import HandS.DictComp
import HandS.Dict
import PyProof.DictMoreH
import HandS.SetKeys
import KE.KDictItemsList
import HandS.ListItems
import HandS.TupSets
import KE.SortData
import HandS.CallSlots
import HandS.MakeKwOnly
import HandS.Style
import KE.KRevSl
import HandS.SetBool
import HandS.Set
import KE.DataMinMax
import HandS.SortKw
import KE.KUnpackStar
import HandS.SetIn
import HandS.SetFor
import PySem.Challenge.RW_whofirst_k03_stands_reached
section FirstPart
set_option Elab.async false
set_option linter.all false
set_option autoImplicit false
set_option maxRecDepth 100000
set_option maxHeartbeats 4000000
namespace WH
open PySem PySem.Spec L2
theorem rd_mono {H H' : Hp} {a : Addr} {u : HO} (e : Same H H') (h : Rd H a u) : Rd H' a u := by
  rcases h with h | ⟨o, h⟩
  · exact Or.inl (e a _ h)
  · exact Or.inr ⟨o, e a _ h⟩
theorem sqL_mono {K : PySem.W.Frag} {H H' : Hp} {a : Addr} {xs : List V} (e : Same H H') (h : SqL K H a xs) : SqL K H' a xs := by
  rcases h with h | h
  · exact Or.inl (rd_mono e h)
  · exact Or.inr h
theorem sqT_mono {K : PySem.W.Frag} {H H' : Hp} {a : Addr} {xs : List V} (e : Same H H') (h : SqT K H a xs) : SqT K H' a xs := by
  rcases h with h | h
  · exact Or.inl (rd_mono e h)
  · exact Or.inr h
def SqN (K : PySem.W.Frag) (H : Hp) (a : Addr) (xs : List V) : Prop := (∃ o, H a = some (.frz o (.tup xs)) ∧ o.dict = none) ∨
  ∃ (o : Obj) (its : Array Value) (n : Nat), K.lookup a = some o ∧ (o.cls = .type "tuple" ∧ o.data = .seq its n ∧ its.size ≤ sizeLine ∧ Vals xs its.toList) ∧ o.dict = none
theorem SqN.t {K : PySem.W.Frag} {H : Hp} {a : Addr} {xs : List V} (h : SqN K H a xs) : SqT K H a xs := by
  rcases h with ⟨o, h, _⟩ | ⟨o, its, n, h, ⟨h1, h2, h3, h4⟩, _⟩
  · exact .inl (.inr ⟨o, h⟩)
  · exact .inr ⟨o, its, n, h, h1, h2, h3, h4⟩
theorem sqN_mono {K : PySem.W.Frag} {H H' : Hp} {a : Addr} {xs : List V} (e : Same H H') (h : SqN K H a xs) : SqN K H' a xs := by
  rcases h with ⟨o, h, hd⟩ | h
  · exact .inl ⟨o, e a _ h, hd⟩
  · exact .inr h
def kD : Key → PyData
  | .inl i => .int i
  | .inr x => .str x
mutual
/-- data that may be a nested key: None, numbers, tuples of such -/
def nkOf : PyData → Option NestedKey
  | .none => some .none
  | .int i => some (.num i)
  | .tuple ds => match nkOfs ds with
    | some ks => some (.tup ks)
    | none => none
  | _ => none
def nkOfs : List PyData → Option (List NestedKey)
  | [] => some []
  | d :: ds => match nkOf d, nkOfs ds with
    | some k, some ks => some (k :: ks)
    | _, _ => none
end
def ndP (a : Addr) (xs : List (NestedKey × Addr × V)) : Heap → Prop := fun h => xs.length ≤ sizeLine ∧ (a == sysModules) = false ∧ ∃ (o : Obj) (es : Array DictEntry) (ep : Nat) (ys : List (NestedKey × Addr × Value)),
  h.get? a = some o ∧ o.ExactDict ∧ o.data = .dict es ep ∧ Paired (fun (p : NestedKey × Addr × V) (q : NestedKey × Addr × Value) => p.1 = q.1 ∧ p.2.1 = q.2.1 ∧ RelV p.2.2 q.2.2) xs ys ∧ (∀ (P : Program) (w : World), es.toList = ys.map (entryOfKey (nestedKind P w))) ∧ (xs.map (·.1)).Nodup
def NdO (a : Addr) (xs : List (NestedKey × Addr × V)) : HO := .ext (ndP a xs)
def nd (kvs : List (PyData × PyData)) : PyData := .dict [(.none, .dict kvs)]
mutual
inductive Rp (K : PySem.W.Frag) (G : Hp) : V → PyData → Prop
  | non : Rp K G .non .none
  | bl (b : Bool) : Rp K G (.bl b) (.bool b)
  | int (i : Int) : Rp K G (.int i) (.int i)
  | str (x : Str) : Rp K G (.str x) (.str x)
  | lst {a : Addr} {xs : List V} {ds : List PyData} : G a = some (.lst xs) → RpAll K G xs ds → Rp K G (.ref a) (.list ds)
  | tup {a : Addr} {xs : List V} {ds : List PyData} : SqN K G a xs → RpAll K G xs ds → Rp K G (.ref a) (.tuple ds)
  | tpw {a : Addr} {xs : List V} {ds : List PyData} : SqT K G a xs → RpAll K G xs ds → Rp K G (.ref a) (.dict [(.none, .tuple ds)])
  | dik {a : Addr} {o : Obj} {xs : List (Key × V)} {ds : List (PyData × PyData)} : G a = some (.frz o (.dK xs)) → RpKv K G xs ds → Rp K G (.ref a) (.dict ds)
  | dit {a : Addr} {o : Obj} {xs : List (List Key × V)} {ds : List (PyData × PyData)} : G a = some (.frz o (.dT xs)) → RpTv K G xs ds → Rp K G (.ref a) (.dict ds)
  | dnk {a : Addr} {o : Obj} {xs : List (NestedKey × Addr × V)} {ds : List (PyData × PyData)} : G a = some (.frz o (NdO a xs)) → RpNv K G xs ds → Rp K G (.ref a) (.dict [(.none, .dict ds)])
  /-- the script -/
  | scr {a : Addr} {ns : List Int} : SqL K G a (ns.map V.int) → Rp K G (.ref a) (.dict [(.none, .list (ns.map PyData.int))])
inductive RpAll (K : PySem.W.Frag) (G : Hp) : List V → List PyData → Prop
  | nil : RpAll K G [] []
  | cons {v : V} {vs : List V} {d : PyData} {ds : List PyData} : Rp K G v d → RpAll K G vs ds → RpAll K G (v :: vs) (d :: ds)
inductive RpKv (K : PySem.W.Frag) (G : Hp) : List (Key × V) → List (PyData × PyData) → Prop
  | nil : RpKv K G [] []
  | cons {k : Key} {v : V} {vs : List (Key × V)} {d : PyData} {ds : List (PyData × PyData)} : Rp K G v d → RpKv K G vs ds → RpKv K G ((k, v) :: vs) ((kD k, d) :: ds)
inductive RpTv (K : PySem.W.Frag) (G : Hp) : List (List Key × V) → List (PyData × PyData) → Prop
  | nil : RpTv K G [] []
  | cons {k : List Key} {v : V} {vs : List (List Key × V)} {d : PyData} {ds : List (PyData × PyData)} : Rp K G v d → RpTv K G vs ds → RpTv K G ((k, v) :: vs) ((.tuple (k.map kD), d) :: ds)
inductive RpNv (K : PySem.W.Frag) (G : Hp) : List (NestedKey × Addr × V) → List (PyData × PyData) → Prop
  | nil : RpNv K G [] []
  | cons {k : NestedKey} {a : Addr} {v : V} {vs : List (NestedKey × Addr × V)} {e d : PyData} {ds : List (PyData × PyData)} : nkOf e = some k → k.depth ≤ 8 → Rp K G (.ref a) e → Rp K G v d → RpNv K G vs ds → RpNv K G ((k, a, v) :: vs) ((e, d) :: ds)
end
section
variable {K : PySem.W.Frag} {H H' : Hp}
theorem rp_mono (e : Same H H') {v : V} {d : PyData} (h : Rp K H v d) : Rp K H' v d :=
  Rp.rec (motive_1 := fun v d _ => Rp K H' v d) (motive_2 := fun xs ds _ => RpAll K H' xs ds) (motive_3 := fun xs ds _ => RpKv K H' xs ds) (motive_4 := fun xs ds _ => RpTv K H' xs ds) (motive_5 := fun xs ds _ => RpNv K H' xs ds)
    .non .bl .int .str (fun h _ i => .lst (e _ _ h) i) (fun h _ i => .tup (sqN_mono e h) i) (fun h _ i => .tpw (sqT_mono e h) i) (fun h _ i => .dik (e _ _ h) i) (fun h _ i => .dit (e _ _ h) i) (fun h _ i => .dnk (e _ _ h) i) (fun h => .scr (sqL_mono e h)) .nil (fun _ _ i j => .cons i j) .nil (fun _ _ i j => .cons i j) .nil (fun _ _ i j => .cons i j) .nil (fun n1 n2 _ _ _ i j k => .cons n1 n2 i j k) h
theorem rpa_mono (e : Same H H') : ∀ {xs : List V} {ds : List PyData}, RpAll K H xs ds → RpAll K H' xs ds
  | _, _, .nil => .nil
  | _, _, .cons a t => .cons (rp_mono e a) (rpa_mono e t)
theorem rpn_mono (e : Same H H') : ∀ {xs : List (NestedKey × Addr × V)} {ds : List (PyData × PyData)}, RpNv K H xs ds → RpNv K H' xs ds
  | _, _, .nil => .nil
  | _, _, .cons n1 n2 a b t => .cons n1 n2 (rp_mono e a) (rp_mono e b) (rpn_mono e t)
end
theorem same_upd {H : Hp} {p : Addr} {o : HO} (h : H p = none) : Same H (upd H p o) := fun a u e => by
  rw [upd_ne (ne_of_none e h)]
  exact e
inductive DpF (K : PySem.W.Frag) (G : Hp) : List (Str × V) → List (Str × PyData) → Prop
  | nil : DpF K G [] []
  | cons {k : Str} {v : V} {d : PyData} {vs : List (Str × V)} {ds : List (Str × PyData)} : Rp K G v d → DpF K G vs ds → DpF K G ((k, v) :: vs) ((k, d) :: ds)
theorem dpF_mono {K : PySem.W.Frag} {H H' : Hp} (e : Same H H') : ∀ {vs : List (Str × V)} {ds : List (Str × PyData)}, DpF K H vs ds → DpF K H' vs ds
  | _, _, .nil => .nil
  | _, _, .cons a t => .cons (rp_mono e a) (dpF_mono e t)
class TabC where
  T : List (Addr × Str)
  /-- whether the world's sets follow the text -/
  ft : Bool
def NTb (o : HO) : Prop := ∀ ps, o ≠ .tbl ps
def nt (H : Hp) : Hp := fun a => match H a with
  | some (.tbl _) => none
  | x => x
theorem nt_some {H : Hp} {a : Addr} {o : HO} (h : nt H a = some o) : H a = some o := by
  unfold nt at h
  split at h
  · cases h
  · exact h
theorem nt_of {H : Hp} {a : Addr} {o : HO} (h : H a = some o) (ho : NTb o) : nt H a = some o := by
  unfold nt
  split
  · rename_i ps e
    rw [h] at e
    cases e
    exact (ho ps rfl).elim
  · exact h
abbrev NF (H : Hp) (a : Addr) : Prop := nt H a = none
theorem nf_no {H : Hp} {a : Addr} {o : HO} (h : H a = some o) (ho : NTb o) (n : NF H a) : False := by
  have e := nt_of h ho
  rw [n] at e
  cases e
def NS (H : Hp) (a : Addr) : Prop := NF H a ∨ ∃ xs, H a = some (.tup xs)
theorem ns_no {H : Hp} {a : Addr} {o : HO} (h : H a = some o) (ho : NTb o) (ht : ∀ xs, o ≠ .tup xs) (n : NS H a) : False := by
  rcases n with n | ⟨xs, n⟩
  · exact nf_no h ho n
  · rw [h] at n
    cases n
    exact ht xs rfl
theorem nt_le {H : Hp} : Same (nt H) H := fun _ _ h => nt_some h
structure Ex [TabC] (H H' : Hp) : Prop where
  s : Same (nt H) (nt H')
  t : LamX.Tabs TabC.T H → LamX.Tabs TabC.T H'
theorem Ex.trans [TabC] {H H1 H2 : Hp} (a : Ex H H1) (b : Ex H1 H2) : Ex H H2 := ⟨a.s.trans b.s, fun h => b.t (a.t h)⟩
theorem Ex.free [TabC] {H H' : Hp} (e : Ex H H') {p : Addr} (h : NF H' p) : NF H p := e.s.free h
theorem Ex.freeS [TabC] {H H' : Hp} (e : Ex H H') {p : Addr} (h : NS H' p) : NS H p := by
  rcases h with h | ⟨xs, h⟩
  · exact .inl (e.free h)
  · cases z : nt H p with
    | none => exact .inl z
    | some o =>
      have q := nt_some (e.s _ _ z)
      rw [h] at q
      cases q
      exact .inr ⟨xs, nt_some z⟩
theorem Ex.at [TabC] {H H' : Hp} (e : Ex H H') {p : Addr} {o : HO} (h : H p = some o) (ho : NTb o) : H' p = some o := nt_some (e.s _ _ (nt_of h ho))
inductive OD where
  | lst (ds : List PyData)
  | dic (kvs : List (Key × PyData))
  | set (S : Int → Bool) (n : Nat)
  /-- a dict by nested keys -/
  | ndic (kvs : List (PyData × PyData))
inductive ST where
  | dat (d : PyData)
  | dl (ds : List PyData)
  | lst (ts : List ST)
  | ins (C : Addr) (fs : List (Str × ST))
  | rl (as : List Addr)
mutual
/-- v stands for the tree; its own objects' addresses -/
inductive SAt (K : PySem.W.Frag) (G H : Hp) : V → ST → List Addr → Prop
  | dat {v : V} {d : PyData} : Rp K G v d → SAt K G H v (.dat d) []
  | dl {a : Addr} {xs : List V} {ds : List PyData} : H a = some (.lst xs) → RpAll K G xs ds → SAt K G H (.ref a) (.dl ds) [a]
  | lst {a : Addr} {xs : List V} {ts : List ST} {fp : List Addr} : H a = some (.lst xs) → SAts K G H xs ts fp → SAt K G H (.ref a) (.lst ts) (a :: fp)
  | ins {a dx C : Addr} {vs : List (Str × V)} {fs : List (Str × ST)} {fp : List Addr} : H a = some (.ins C dx vs) → H dx = some (.own a) → SAtF K G H vs fs fp → SAt K G H (.ref a) (.ins C fs) (a :: dx :: fp)
  /-- a list whose items are roots of their own -/
  | rl {a : Addr} {as : List Addr} : H a = some (.lst (as.map V.ref)) → SAt K G H (.ref a) (.rl as) [a]
inductive SAts (K : PySem.W.Frag) (G H : Hp) : List V → List ST → List Addr → Prop
  | nil : SAts K G H [] [] []
  | cons {v : V} {t : ST} {f : List Addr} {vs : List V} {ts : List ST} {fs : List Addr} : SAt K G H v t f → SAts K G H vs ts fs → SAts K G H (v :: vs) (t :: ts) (f ++ fs)
inductive SAtF (K : PySem.W.Frag) (G H : Hp) : List (Str × V) → List (Str × ST) → List Addr → Prop
  | nil : SAtF K G H [] [] []
  | cons {k : Str} {v : V} {t : ST} {f : List Addr} {vs : List (Str × V)} {ts : List (Str × ST)} {fs : List Addr} : SAt K G H v t f → SAtF K G H vs ts fs → SAtF K G H ((k, v) :: vs) ((k, t) :: ts) (f ++ fs)
end
section
variable {K : PySem.W.Frag} {G H G' H' : Hp}
theorem fp_app {f fs : List Addr} {P : Addr → Prop} (h : ∀ a ∈ f ++ fs, P a) : (∀ a ∈ f, P a) ∧ ∀ a ∈ fs, P a := ⟨fun a ha => h a (List.mem_append.mpr (.inl ha)), fun a ha => h a (List.mem_append.mpr (.inr ha))⟩
theorem fp_cons {x : Addr} {fs : List Addr} {P : Addr → Prop} (h : ∀ a ∈ x :: fs, P a) : P x ∧ ∀ a ∈ fs, P a := ⟨h x List.mem_cons_self, fun a ha => h a (List.mem_cons_of_mem _ ha)⟩
theorem sAt_frame (gg : Same G G') {v : V} {t : ST} {fp : List Addr} (h : SAt K G H v t fp) : (∀ a ∈ fp, H' a = H a) → SAt K G' H' v t fp :=
  SAt.rec (motive_1 := fun v t fp _ => (∀ a ∈ fp, H' a = H a) → SAt K G' H' v t fp) (motive_2 := fun v t fp _ => (∀ a ∈ fp, H' a = H a) → SAts K G' H' v t fp) (motive_3 := fun v t fp _ => (∀ a ∈ fp, H' a = H a) → SAtF K G' H' v t fp)
    (fun r _ => .dat (rp_mono gg r)) (fun e r hf => .dl ((fp_cons hf).1.trans e) (rpa_mono gg r)) (fun e _ ih hf => .lst ((fp_cons hf).1.trans e) (ih (fp_cons hf).2))
    (fun e d _ ih hf => .ins ((fp_cons hf).1.trans e) ((fp_cons (fp_cons hf).2).1.trans d) (ih (fp_cons (fp_cons hf).2).2)) (fun e hf => .rl ((fp_cons hf).1.trans e))
    (fun _ => .nil) (fun _ _ i j hf => .cons (i (fp_app hf).1) (j (fp_app hf).2)) (fun _ => .nil) (fun _ _ i j hf => .cons (i (fp_app hf).1) (j (fp_app hf).2)) h
theorem sAt_mono (gg : Same G G') {v : V} {t : ST} {fp : List Addr} (h : SAt K G H v t fp) : SAt K G' H v t fp := sAt_frame gg h fun _ _ => rfl
end
class ObjB where
  B : Hp
abbrev objNil : ObjB := ⟨fun _ => none⟩
inductive Slot where
  | no
  | sh (d : PyData)
  | ow (o : OD)
  | raw (v : V) (x : Option (Addr × List (Str × PyData)))
  | tr (a : Addr) (t : ST)
abbrev Sto := List Slot
inductive RpK (K : PySem.W.Frag) (G : Hp) : List (Key × V) → List (Key × PyData) → Prop
  | nil : RpK K G [] []
  | cons {k : Key} {v : V} {d : PyData} {vs : List (Key × V)} {ds : List (Key × PyData)} : Rp K G v d → RpK K G vs ds → RpK K G ((k, v) :: vs) ((k, d) :: ds)
theorem rpK_mono {K : PySem.W.Frag} {H H' : Hp} (e : Same H H') : ∀ {vs : List (Key × V)} {ds : List (Key × PyData)}, RpK K H vs ds → RpK K H' vs ds
  | _, _, .nil => .nil
  | _, _, .cons a t => .cons (rp_mono e a) (rpK_mono e t)
def setP (ft : Bool) (a : Addr) (S : Int → Bool) (n : Nat) : Heap → Prop := fun h => ∃ o es ep t, h.get? a = some o ∧ o.ExactSet ∧ o.data = .set es ep t ∧ (∀ e ∈ es.toList, L2.GoodE e) ∧ (es.toList.map L2.keyOf).Nodup ∧ (∀ k, S k = true ↔ k ∈ es.toList.map L2.keyOf) ∧
    es.size < scanBound ∧ t.fits es.size = true ∧ es.size = n ∧ L2.Ris t.place.toList ∧ (ft = true ∨ t.led = true)
variable [TabC]
def HoOk (K : PySem.W.Frag) (G : Hp) : HO → OD → Prop
  | .lst xs, .lst ds => RpAll K G xs ds
  | .dK kvs, .dic es => RpK K G kvs es
  | .ext φ, .ndic kvs => ∃ a xs, φ = ndP a xs ∧ RpNv K G xs kvs
  | .ext φ, .set S n => ∃ a, φ = setP TabC.ft a S n
  | _, _ => False
theorem hoOk_mono {K : PySem.W.Frag} {H H' : Hp} (e : Same H H') {h : HO} {o : OD} (x : HoOk K H h o) : HoOk K H' h o := by
  cases h <;> cases o <;> first | exact x | exact rpa_mono e x | exact rpK_mono e x | exact x.elim | (obtain ⟨a, xs, x1, x2⟩ := x; exact ⟨a, xs, x1, rpn_mono e x2⟩)
theorem hoOk_ntb {K : PySem.W.Frag} {H : Hp} {h : HO} {o : OD} (x : HoOk K H h o) : NTb h := fun ps z => by
  subst z
  cases o <;> exact x.elim
theorem hoOk_ntp {K : PySem.W.Frag} {H : Hp} {h : HO} {o : OD} (x : HoOk K H h o) : ∀ xs, h ≠ .tup xs := fun ps z => by
  subst z
  cases o <;> exact x.elim
variable [ObjB]
structure Ok (K : PySem.W.Frag) (G0 H0 G H : Hp) (σ : L2.St) (ρ : Sto) : Prop where
  gn : Same G (nt H)
  g0 : Same G0 G
  h0 : Ex H0 H
  tb : LamX.Tabs TabC.T H
  nw : ∀ a o, G a = some o → G0 a = some o ∨ NS H0 a
  len : σ.length = ρ.length
  sh : ∀ (i : Nat) (d : PyData), ρ[i]? = some (Slot.sh d) → ∃ v, σ[i]? = some (some v) ∧ Rp K G v d
  ow : ∀ (i : Nat) (o : OD), ρ[i]? = some (Slot.ow o) → ∃ a ho, σ[i]? = some (some (V.ref a)) ∧ H a = some ho ∧ G a = none ∧ NF H0 a ∧ HoOk K G ho o
  ap : ∀ (i j : Nat) (o u : OD) (a : Addr), i ≠ j → ρ[i]? = some (Slot.ow o) → ρ[j]? = some (Slot.ow u) → σ[i]? = some (some (V.ref a)) → σ[j]? ≠ some (some (V.ref a))
  rw : ∀ (i : Nat) (v : V) (x : Option (Addr × List (Str × PyData))), ρ[i]? = some (Slot.raw v x) → σ[i]? = some (some v) ∧ ∀ q, x = some q → ∃ vs, G q.1 = some (.xd vs) ∧ DpF K G vs q.2
  /-- a tree, read only: it stands in the region -/
  tr : ∀ (i : Nat) (a : Addr) (t : ST), ρ[i]? = some (Slot.tr a t) → ∃ fp, σ[i]? = some (some (V.ref a)) ∧ SAt K G ObjB.B (.ref a) t fp
  bB : Same ObjB.B (nt H0)
section
variable {K : PySem.W.Frag} {G0 H0 G H G' H' : Hp} {σ : L2.St} {ρ : Sto}
theorem Ok.gh (k : Ok K G0 H0 G H σ ρ) : Same G H := k.gn.trans nt_le
theorem Ok.grow (k : Ok K G0 H0 G H σ ρ) (gg : Same G G') (hh : Ex H H') (gh : Same G' (nt H')) (nw : ∀ a o, G' a = some o → G a = some o ∨ NS H a) : Ok K G0 H0 G' H' σ ρ where
  gn := gh
  g0 := k.g0.trans gg
  h0 := k.h0.trans hh
  tb := hh.t k.tb
  nw := fun a o e => by
    rcases nw a o e with q | q
    · exact k.nw a o q
    · exact .inr (k.h0.freeS q)
  len := k.len
  sh := fun i d e => by
    obtain ⟨v, h1, h2⟩ := k.sh i d e
    exact ⟨v, h1, rp_mono gg h2⟩
  ow := fun i o e => by
    obtain ⟨a, ho, h1, h2, h3, h4, h5⟩ := k.ow i o e
    refine ⟨a, ho, h1, hh.at h2 (hoOk_ntb h5), ?_, h4, hoOk_mono gg h5⟩
    cases q : G' a with
    | none => rfl
    | some u =>
      rcases nw a u q with z | z
      · rw [h3] at z; cases z
      · exact (ns_no h2 (hoOk_ntb h5) (hoOk_ntp h5) z).elim
  ap := k.ap
  rw := fun i v x e => ⟨(k.rw i v x e).1, fun q h => let ⟨vs, z1, z2⟩ := (k.rw i v x e).2 q h; ⟨vs, gg _ _ z1, dpF_mono gg z2⟩⟩
  tr := fun i a t e => let ⟨fp, h1, h2⟩ := k.tr i a t e; ⟨fp, h1, sAt_mono gg h2⟩
  bB := k.bB
theorem Ok.freeze (k : Ok K G0 H0 G H' σ ρ) {p : Addr} {o : HO} (hp : H' p = some o) (hg : G p = none) (h0 : NF H0 p) (un : ∀ (i : Nat) (u : OD), ρ[i]? = some (Slot.ow u) → σ[i]? ≠ some (some (V.ref p))) (ho : NTb o := by intro _ z; cases z) : Ok K G0 H0 (upd G p o) H' σ ρ where
  gn := fun a u e => by
    by_cases ha : a = p
    · subst ha; rw [upd_same] at e; rw [nt_of hp ho]; exact e
    · rw [upd_ne ha] at e; exact k.gn a u e
  g0 := k.g0.trans (same_upd hg)
  h0 := k.h0
  tb := k.tb
  nw := fun a u e => by
    by_cases ha : a = p
    · subst ha; exact .inr (.inl h0)
    · rw [upd_ne ha] at e; exact k.nw a u e
  len := k.len
  sh := fun i d e => by
    obtain ⟨v, h1, h2⟩ := k.sh i d e
    exact ⟨v, h1, rp_mono (same_upd hg) h2⟩
  ow := fun i u e => by
    obtain ⟨a, ho, h1, h2, h3, h4, h5⟩ := k.ow i u e
    have ne : a ≠ p := fun z => un i u e (by rw [← z]; exact h1)
    exact ⟨a, ho, h1, h2, by rw [upd_ne ne]; exact h3, h4, hoOk_mono (same_upd hg) h5⟩
  ap := k.ap
  rw := fun i v x e => ⟨(k.rw i v x e).1, fun q h => let ⟨vs, z1, z2⟩ := (k.rw i v x e).2 q h; ⟨vs, same_upd hg _ _ z1, dpF_mono (same_upd hg) z2⟩⟩
  tr := fun i a t e => let ⟨fp, h1, h2⟩ := k.tr i a t e; ⟨fp, h1, sAt_mono (same_upd hg) h2⟩
  bB := k.bB
end
structure Gr (G H G' H' : Hp) : Prop where
  gg : Same G G'
  hh : Ex H H'
  nw : ∀ a o, G' a = some o → G a = some o ∨ NS H a
theorem Gr.trans {G H G1 H1 G2 H2 : Hp} (a : Gr G H G1 H1) (b : Gr G1 H1 G2 H2) : Gr G H G2 H2 := ⟨a.gg.trans b.gg, a.hh.trans b.hh, fun x o e => by
  rcases b.nw x o e with z | z
  · exact a.nw x o z
  · exact .inr (a.hh.freeS z)⟩
theorem Gr.out {G H G' H' : Hp} (g : Gr G H G' H') {a : Addr} {o : HO} (hg : G a = none) (hh : H a = some o) (ho : NTb o := by intro _ z; cases z) (ht : ∀ xs, o ≠ .tup xs := by intro _ z; cases z) : G' a = none := by
  cases z : G' a with
  | none => rfl
  | some u =>
    rcases g.nw _ _ z with z | z
    · rw [hg] at z; cases z
    · exact (ns_no hh ho ht z).elim
abbrev Exn := Str × List (Str × PyData)
abbrev XW := (Str → Option Value) × WX
def ExcOk (K : PySem.W.Frag) (mg : Str → Option Value) (G H : Hp) (x : Exn) (cls : Value) (d : Option Addr) : Prop :=
  mg x.1 = some cls ∧ ∃ dd vs, d = some dd ∧ G dd = some (.xd vs) ∧ DpF K G vs x.2
abbrev XD := Exn → Prop
abbrev DE := Sto → (PyData → Prop) → XD → Prop
abbrev DA := Sto → (List PyData → Prop) → XD → Prop
structure DEnds where
  nx : Sto → Prop
  rt : Slot → Prop
  ex : Exn → Sto → Prop
  bk : Sto → Prop := fun _ => False
  ct : Sto → Prop := fun _ => False
abbrev DEnds.xd (D : DEnds) (ρ : Sto) : XD := fun x => D.ex x ρ
def Sq (K : PySem.W.Frag) : Bool → Hp → Hp → Addr → List V → Prop
  | true => fun G _ a xs => SqN K G a xs
  | false => fun _ H a xs => H a = some (.lst xs)
def dat : Bool → List PyData → PyData
  | true => .tuple
  | false => .list
theorem Sq.any {K : PySem.W.Frag} {b : Bool} {G H : Hp} {a : Addr} {xs : List V} (gh : Same G H) (h : Sq K b G H a xs) : SqL K H a xs ∨ SqT K H a xs := by
  cases b
  · exact .inl (SqL.of h)
  · exact .inr (sqT_mono gh (SqN.t h))
section
variable (K : PySem.W.Frag) (W : XW)
def XOk (G0 H0 G H : Hp) (σ : L2.St) (ρ : Sto) (Xd : XD) : Prop := ∀ G' H' x cls d, Ok K G0 H0 G' H' σ ρ → Gr G H G' H' → ExcOk K W.1 G' H' x cls d → Xd x → W.2 cls d σ H'
def upE (de : DE) : TE := fun σ H Q => ∃ G0 H0 G ρ Qd Xd, Ok K G0 H0 G H σ ρ ∧ de ρ Qd Xd ∧ (∀ G' H' v d, Ok K G0 H0 G' H' σ ρ → Gr G H G' H' → Rp K G' v d → Qd d → Q v H') ∧ XOk K W G0 H0 G H σ ρ Xd
def RetOk (G0 H0 : Hp) (s : Slot) (v : V) (H' : Hp) : Prop := ∃ G', Same G0 G' ∧ Ex H0 H' ∧ Same G' (nt H') ∧ (∀ a o, G' a = some o → G0 a = some o ∨ NS H0 a) ∧
  match s with
  | .sh d => Rp K G' v d
  | .ow o => ∃ p ho, v = .ref p ∧ NF H0 p ∧ G' p = none ∧ H' p = some ho ∧ HoOk K G' ho o
  | .no => False
  | .tr _ _ => False
  /- None, where the list at p, one of the caller's, has become es -/
  | .raw v0 x => v = v0 ∧ ∃ p f es, x = some (p, [(f, PyData.list es)]) ∧ NF H0 p ∧ G' p = none ∧ ∃ ys, H' p = some (.lst ys) ∧ RpAll K G' ys es
end
def QE (X : Cx) (W : XW) (e : Expr) (de : DE) : Prop := PE X e (upE X.K W de)
theorem PE.sub {X : Cx} {e : Expr} {t t' : TE} (h : PE X e t) (s : ∀ σ H Q, t' σ H Q → t σ H Q) : PE X e t' := ⟨fun pins st σ H Q I hw => h.run pins st σ H Q I (s σ H Q hw)⟩
theorem PT.sub {X : Cx} {e : Expr} {t t' : TT} (h : PT X e t) (s : ∀ σ H Q, t' σ H Q → t σ H Q) : PT X e t' := ⟨fun pins st σ H Q I hw => h.run pins st σ H Q I (s σ H Q hw)⟩
theorem PA.sub {X : Cx} {e : List Expr} {t t' : TA} (h : PA X e t) (s : ∀ σ H Q, t' σ H Q → t σ H Q) : PA X e t' := ⟨fun pos pins st σ H Q I hw => h.run pos pins st σ H Q I (s σ H Q hw)⟩
theorem PS.sub {X : Cx} {e : Stmt} {t t' : TS} (h : PS X e t) (s : ∀ D σ H, t' D σ H → t D σ H) : PS X e t' := ⟨fun pins st σ H D I hw => h.run pins st σ H D I (s D σ H hw)⟩
theorem PSs.sub {X : Cx} {e : List Stmt} {t t' : TS} (h : PSs X e t) (s : ∀ D σ H, t' D σ H → t D σ H) : PSs X e t' := ⟨fun pins st σ H D I hw => h.run pins st σ H D I (s D σ H hw)⟩
end WH
namespace WH
open PySem PySem.Spec L2
variable [TabC] [ObjB]
section
variable {X : Cx} {W : XW}
theorem PW.sub {X : Cx} {e : Expr} {t t' : TT} (h : PW X e t) (s : ∀ σ H Q, t' σ H Q → t σ H Q) : PW X e t' := ⟨fun wh pins st σ H Q I hw => h.run wh pins st σ H Q I (s σ H Q hw)⟩
theorem rp_lstNew {K : PySem.W.Frag} {G : Hp} {p : Addr} {xs : List V} {ds : List PyData} (hg : G p = none) (h : RpAll K G xs ds) : Rp K (upd G p (.lst xs)) (.ref p) (.list ds) := .lst upd_same (rpa_mono (same_upd hg) h)
end
end WH
namespace WH
open PySem PySem.Spec L2
variable [TabC] [ObjB]
section
variable {X : Cx} {W : XW} {a b : Expr} {pos : Pos} {da db : DE}
theorem PO.sub {X : Cx} {e : Option Expr} {t t' : TO} (h : PO X e t) (s : ∀ σ H Q, t' σ H Q → t σ H Q) : PO X e t' := ⟨fun pins st σ H Q I hw => h.run pins st σ H Q I (s σ H Q hw)⟩
end
end WH
namespace WH
open PySem PySem.Spec L2
variable [TabC] [ObjB]
section
variable {X : Cx} {W : XW}
theorem PG.sub {X : Cx} {e : Expr} {t t' : TG} (h : PG X e t) (s : ∀ v σ H Q, t' v σ H Q → t v σ H Q) : PG X e t' := ⟨fun pins st σ H v u Q I r hw => h.run pins st σ H v u Q I r (s v σ H Q hw)⟩
theorem PGs.sub {X : Cx} {e : List Expr} {t t' : TGs} (h : PGs X e t) (s : ∀ v σ H Q, t' v σ H Q → t v σ H Q) : PGs X e t' := ⟨fun pins st σ H v u Q I r hw => h.run pins st σ H v u Q I r (s v σ H Q hw)⟩
end
end WH
namespace WH
open PySem PySem.Spec L2
variable [TabC] [ObjB]
theorem PI.sub {X : Cx} {tg e : Expr} {t t' : TI} (h : PI X tg e t) (s : ∀ σ H R, t' σ H R → t σ H R) : PI X tg e t' := ⟨fun pins st σ H R I hw => h.run pins st σ H R I (s σ H R hw)⟩
section
variable {X : Cx} {W : XW} {tg : Expr}
theorem PTs.sub {X : Cx} {e : List Expr} {t t' : TT} (h : PTs X e t) (s : ∀ σ H Q, t' σ H Q → t σ H Q) : PTs X e t' := ⟨fun pins st σ H Q I hw => h.run pins st σ H Q I (s σ H Q hw)⟩
abbrev Ct := List PyData → (Slot → Prop) → XD → Prop
def slotD : Slot → Option PyData
  | .sh d => some d
  | .ow (.lst ds) => some (.list ds)
  | _ => none
theorem RetOk.sh {K : PySem.W.Frag} {G0 H0 G H : Hp} {σ : L2.St} {ρ : Sto} {s : Slot} {v : V} {H' : Hp} {d : PyData} (k : Ok K G0 H0 G H σ ρ) (r : RetOk K G H s v H') (hd : slotD s = some d) : ∃ G', Ok K G0 H0 G' H' σ ρ ∧ Gr G H G' H' ∧ Rp K G' v d := by
  obtain ⟨G', r1, r2, r3, r4, r5⟩ := r
  have k' : Ok K G0 H0 G' H' σ ρ := k.grow r1 r2 r3 r4
  cases s with
  | no => exact r5.elim
  | raw _ _ => cases hd
  | tr _ _ => cases hd
  | sh e =>
    cases hd
    exact ⟨G', k', ⟨r1, r2, r4⟩, r5⟩
  | ow o =>
    obtain ⟨p, ho, rfl, n1, n2, n3, n4⟩ := r5
    cases o with
    | lst ds =>
      cases hd
      cases ho with
      | lst xs =>
        refine ⟨upd G' p (.lst xs), k'.freeze n3 n2 (k.h0.free n1) fun i u e z => ?_, ⟨r1.trans (same_upd n2), r2, fun a u e => ?_⟩, rp_lstNew n2 n4⟩
        · obtain ⟨a, ho', z1, z2, _, _, z5⟩ := k.ow i u e
          rw [z1] at z
          cases z
          exact nf_no z2 (hoOk_ntb z5) n1
        · by_cases ha : a = p
          · subst ha; exact .inr (.inl n1)
          · rw [upd_ne ha] at e; exact r4 a u e
      | _ => exact n4.elim
    | dic _ => cases hd
    | set _ _ => cases hd
    | ndic _ => cases hd
end
end WH
namespace WH
open PySem PySem.Spec L2
instance (priority := low) tabNil : TabC := ⟨[], false⟩
instance (priority := low) objNone : ObjB := objNil
end WH
namespace WH
open PySem PySem.Spec L2
variable [TabC] [ObjB]
section
variable {X : Cx} {W : XW} {a b e : Expr} {p pos apos cpos : Pos} {da db de : DE}
abbrev DJ := Str → Sto → (Str → Prop) → XD → Prop
inductive QJ (X : Cx) (W : XW) : List Expr → DJ → Prop where
  | nil : QJ X W [] (fun acc _ Q _ => Q acc)
  | lit {s : Str} {j : Nat} {p : Pos} {es : List Expr} {dj : DJ} (r : QJ X W es dj) : QJ X W (.Constant (.str s) j p :: es) (fun acc ρ Q X => acc.length + s.length ≤ 100000 ∧ dj (acc ++ s) ρ Q X)
  | val {e : Expr} {p : Pos} {es : List Expr} {de : DE} {dj : DJ} (h : QE X W e de) (r : QJ X W es dj) :
      QJ X W (.FormattedValue e (-1) none p :: es) (fun acc ρ Q X => de ρ (fun d => (∃ y : Str, d = .str y ∧ acc.length + y.length ≤ 100000 ∧ dj (acc ++ y) ρ Q X) ∨ ∃ i : Int, d = .int i ∧ i.natAbs < 2 ^ 200 ∧ acc.length + (PySem.Str.ofString (toString i)).length ≤ 100000 ∧ dj (acc ++ PySem.Str.ofString (toString i)) ρ Q X) X)
end
end WH
namespace WH
section
open PySem PySem.W PySem.Calls PyProof.Rows PySem.HandSPX Builtin Builtin.ObjectAttr
def refsT (tl : List Value) : List Value → Bool
  | .ref _ :: r => refsT tl r
  | l => l == tl
structure BsX (nw : String) (tl : List Value) : Prop where
  base : ∃ B ini, ExcBaseFacts B nw ini tl
  pass : ∀ self : Value, refuseLoop self "__setattr__" tl = pure ()
  obj : tl.contains (.type "object") = true
variable {P : Program} {w : World} {A : Around} {R : Result → Shared → Prop} {h0 : Heap} {gs : Array GenState} {dr : Drawn} {tk0 : Nat} {os : OsState}
end
open PySem PySem.Spec L2 PyProof.Rows
structure OexG (K : PySem.W.Frag) (C : Addr) : Prop where
  cls : ∃ nw tl nm q N bs bm sn sub ab col dd k0 k1 k2 k3 k5, BsX nw tl ∧ K.lookup C = some (excClassObj nm q C N bs bm true sn sub ab col dd k0 k1 k2 k3 k5 nw) ∧ refsT tl bm = true
  sa : PySem.W.findIn K (.ref C) "__setattr__" = some (some (.builtin "object.__setattr__"))
  exC : PySem.W.subIn K (.ref C) (.type "BaseException") = some true
  tyC : PySem.W.typeIn K (.ref C) = some (.type "type")
  kC : PySem.W.keepIn K (.ref C) = true
end WH
namespace WH
open PySem PySem.Spec L2
variable [TabC] [ObjB]
abbrev leT : List Value := [.type "LookupError", .type "Exception", .type "BaseException", .type "object"]
abbrev ieT : List Value := [.type "IndexError", .type "LookupError", .type "Exception", .type "BaseException", .type "object"]
def exT (n : String) (bm : List Value) : Bool := (n == "ValueError.__new__" && refsT PySem.HandSPX.veTail bm) || ((n == "LookupError.__new__" && refsT leT bm) || (n == "IndexError.__new__" && refsT ieT bm))
def oexA (K : PySem.W.Frag) (C : Addr) : Bool := match K.lookup C with
  | some ⟨.type "type", _, .cls cd, sl⟩ => (match cd.mro, sl.toList with
    | .ref C' :: bm, [_, _, _, _, some (.builtin n), _] => C' == C && !cd.hasDel && cd.hasDict && exT n bm
    | _, _ => false)
  | _ => false
def cBody : Stmt → List Stmt
  | .ClassDef _ _ _ b _ _ _ _ _ _ _ => b
  | _ => []
def xcB (K : PySem.W.Frag) (x : Str) (fs : List Str) : Bool := oexA K (He.ga K x) && decide (PySem.W.findIn K (.ref (He.ga K x)) "__setattr__" = some (some (.builtin "object.__setattr__"))) && decide (PySem.W.subIn K (.ref (He.ga K x)) (.type "BaseException") = some true) && decide (PySem.W.typeIn K (.ref (He.ga K x)) = some (.type "type")) && PySem.W.keepIn K (.ref (He.ga K x)) &&
  decide (PySem.W.findIn K (.ref (He.ga K x)) "__init__" = some (some (.ref (He.ma K (He.ga K x) "__init__")))) && decide (PySem.W.typeIn K (.ref (He.ma K (He.ga K x) "__init__")) = some (.type "function")) && fs.all fun f => decide (PySem.W.findIn K (.ref (He.ga K x)) f = some none)
structure XC (K : PySem.W.Frag) (x : Str) (fs : List Str) : Prop where
  o : OexG K (He.ga K x)
  i : PySem.W.findIn K (.ref (He.ga K x)) "__init__" = some (some (.ref (He.ma K (He.ga K x) "__init__")))
  t : PySem.W.typeIn K (.ref (He.ma K (He.ga K x) "__init__")) = some (.type "function")
  n : ∀ f ∈ fs, PySem.W.findIn K (.ref (He.ga K x)) f = some none
end WH
namespace WH
open PySem PySem.Spec L2 PyProof.Rows
variable [TabC] [ObjB]
def Tst (X : Cx) (te : Expr) (cs : List Value) : Prop := ∀ (a : Addr) (oe : Obj) (pn : List (Addr × Obj)) (σ : L2.St) (H : Hp) (s : Shared) (cls : Value) (b : Bool), Inv (X.suite a ((a, oe) :: pn)) [] σ H s → oe.cls = cls → PySem.W.exmAny X.K cls cs = some b →
  ∀ (Q : Bool → Shared → Prop) (E : Value → Shared → Prop), (∀ h', (∀ q o, s.heap.get? q = some o → h'.get? q = some o) → Q b { s with heap := h' }) →
    wpAny (model X.prog X.w) (X.A.mark (some (.ref a))) (eval te X.env) (fun c s1 => wpAny (model X.prog X.w) (X.A.mark (some (.ref a))) (excMatches (.ref a) c) Q E s1) E s
inductive Hds (X : Cx) (n : Str) : List ExceptHandler → List (List Value × (Addr → Value → Option Addr → TS)) → Prop
  | nil : Hds X n [] []
  | cons {te : Expr} {cs : List Value} {ts : Addr → Value → Option Addr → TS} {b0 : Stmt} {suite : List Stmt} {pos' : Pos} {hds : List ExceptHandler} {l : List (List Value × (Addr → Value → Option Addr → TS))} (ht : Tst X te cs)
      (hsu : ∀ (a : Addr) (oe : Obj) (cls : Value) (d : Option Addr) (pn : List (Addr × Obj)), L2N.Zn cls d oe → (∃ vs, oe.data = .fields vs) → PSs (X.suite a ((a, oe) :: pn)) (b0 :: suite) (ts a cls d)) (r : Hds X n hds l) :
      Hds X n (.ExceptHandler (some te) (some n) (b0 :: suite) pos' :: hds) ((cs, ts) :: l)
end WH
namespace WH
open PySem PySem.Spec L2 PyProof.Rows L2H
variable [TabC] [ObjB]
structure ExP (X : Cx) (a : Addr) (oe : Obj) (D dd : Addr) : Prop where
  pn : (a, oe) ∈ X.pn
  z : L2N.Zn (.ref D) (some dd) oe
  f : ∃ vs, oe.data = .fields vs
end WH
namespace WH
open PySem PySem.Spec L2 PyProof.Rows L2H
variable [TabC] [ObjB]
def callNames : List Str := ["BadTable", "BadText", "BadChoice", "BadOrder", "BadMany", "BadScheme", "BadWishes", "BadTurn", "Full", "TooWide", "NoScheme", "Ended", "Still", "Busy", "Idle", "Undone", "NoStand", "NoOperation", "NoHand", "NothingLeft"]
structure CalF (K : PySem.W.Frag) (mg : Str → Option Value) (nm : Str) (D : Addr) : Prop where
  me : mg nm = some (.ref D)
  C : ExcC K D
  T : XfC K D
  n : ∀ f ∈ (["word", "at", "hand", "row", "most", "level"] : List Str), PySem.W.findIn K (.ref D) f = some none
  k : ∀ c ∈ callNames, ∃ C, mg c = some (.ref C) ∧ PySem.W.kitOne K (.ref D) (.ref C) = some (decide (c = nm))
end WH
namespace WH
open PySem PySem.Spec L2 PyProof.Rows L2H LamX
variable [TabC] [ObjB]
structure TrF (K : PySem.W.Frag) (mg : Str → Option Value) (cs : List (List Value)) (nm : Str) (D : Addr) (c : Nat) : Prop where
  cal : CalF K mg nm D
  cn : nm ∈ callNames
  no : ∀ j, j < c → PySem.W.exmAny K (.ref D) (cs.getD j []) = some false
  ye : PySem.W.exmAny K (.ref D) (cs.getD c []) = some true
end WH
namespace WH
open PySem PySem.Spec L2 PyProof.Rows L2H LamX
variable [TabC] [ObjB]
structure TabX (X : Cx) : Prop where
  ex : ∃ c P, TabB X.base X.mg c P ∧ X.env.code = .ref c ∧ (P, X.env.qual ++ "<lambda>") ∈ TabC.T ∧ ∀ p ∈ TabC.T, p.1 = P → p.2 = X.env.qual ++ "<lambda>"
end WH
namespace LamX
open PySem PySem.Spec PyProof.Rows L2
structure FnOkG (P : Program) (w : World) (K : PySem.W.Frag) (mg : Str → Option Value) (base : Heap) (CX : CXT) (k : Nat) (f : Addr) (fd : FuncData) (ps : List Str) (sp : Sp) : Prop where
  len : ∀ vs H Q E, sp vs H Q E → vs.length = ps.length
  run : ∀ (A : Around) (outer : List Env) (s : Shared) (H : Hp) (args : Args) (us : List Value) (vs : List V) (Q : VK) (E : XK), Room k A → A.guards = some [] → Env0 P w K mg base A outer s H → BindsTo s fd args (ps.zip us) → Vals vs us → sp vs H Q E →
    codeAny (model P w) A (.call (.ref f) args) (CR CX outer P w H s Q E) s
end LamX
namespace WH
open PySem PySem.Spec L2 PyProof.Rows L2H LamX PySem.W
variable [TabC] [ObjB]
structure LamP (sc scope : Scope) (p : Str) : Prop where
  kind : scope.kind = .function
  co : scope.isCoroutine = false
  gen : scope.isGenerator = false
  own : ∀ y ∈ scope.names, (y.2 = .local → y.1 = p) ∧ y.2 ≠ .cell
  nul : ∀ y ∈ scope.names, y.1 ≠ ""
  free : ∀ y ∈ scope.names, y.2 = .free → sc.names.lookup y.1 = some .cell ∨ sc.names.lookup y.1 = some .free
  par : scope.names.lookup p = some .local
theorem LamP.has {X : Cx} {scope : Scope} {p : Str} (L : LamP X.env.scope scope p) (ok : X.Ok) : ∀ y ∈ scope.names, y.2 = .free → ∃ c, X.env.cells.lookup y.1 = some c := fun y hy e => by
  rcases L.free y hy e with k | k
  · exact ok.has _ (.inl k)
  · exact ok.has _ (.inr k)
end WH
namespace WH
open PySem PySem.Spec L2
inductive OT where
  | dat (d : PyData)
  | lst (ts : List OT)
  | dik (kvs : List (Key × OT))
  | dit (kvs : List (List Key × OT))
mutual
def toD : OT → PyData
  | .dat d => d
  | .lst ts => .list (toDs ts)
  | .dik kvs => .dict (toDk kvs)
  | .dit kvs => .dict (toDt kvs)
def toDs : List OT → List PyData
  | [] => []
  | t :: ts => toD t :: toDs ts
def toDk : List (Key × OT) → List (PyData × PyData)
  | [] => []
  | (k, t) :: r => (kD k, toD t) :: toDk r
def toDt : List (List Key × OT) → List (PyData × PyData)
  | [] => []
  | (k, t) :: r => (.tuple (k.map kD), toD t) :: toDt r
end
mutual
/-- v stands for the tree; its own objects' addresses -/
inductive TAt (K : PySem.W.Frag) (G H : Hp) : V → OT → List Addr → Prop
  | dat {v : V} {d : PyData} : Rp K G v d → TAt K G H v (.dat d) []
  | lst {a : Addr} {xs : List V} {ts : List OT} {fp : List Addr} : H a = some (.lst xs) → TAts K G H xs ts fp → TAt K G H (.ref a) (.lst ts) (a :: fp)
  | dik {a : Addr} {xs : List (Key × V)} {ts : List (Key × OT)} {fp : List Addr} : H a = some (.dK xs) → TAtK K G H xs ts fp → TAt K G H (.ref a) (.dik ts) (a :: fp)
  | dit {a : Addr} {xs : List (List Key × V)} {ts : List (List Key × OT)} {fp : List Addr} : H a = some (.dT xs) → TAtT K G H xs ts fp → TAt K G H (.ref a) (.dit ts) (a :: fp)
inductive TAts (K : PySem.W.Frag) (G H : Hp) : List V → List OT → List Addr → Prop
  | nil : TAts K G H [] [] []
  | cons {v : V} {t : OT} {f : List Addr} {vs : List V} {ts : List OT} {fs : List Addr} : TAt K G H v t f → TAts K G H vs ts fs → TAts K G H (v :: vs) (t :: ts) (f ++ fs)
inductive TAtK (K : PySem.W.Frag) (G H : Hp) : List (Key × V) → List (Key × OT) → List Addr → Prop
  | nil : TAtK K G H [] [] []
  | cons {k : Key} {v : V} {t : OT} {f : List Addr} {vs : List (Key × V)} {ts : List (Key × OT)} {fs : List Addr} : TAt K G H v t f → TAtK K G H vs ts fs → TAtK K G H ((k, v) :: vs) ((k, t) :: ts) (f ++ fs)
inductive TAtT (K : PySem.W.Frag) (G H : Hp) : List (List Key × V) → List (List Key × OT) → List Addr → Prop
  | nil : TAtT K G H [] [] []
  | cons {k : List Key} {v : V} {t : OT} {f : List Addr} {vs : List (List Key × V)} {ts : List (List Key × OT)} {fs : List Addr} : TAt K G H v t f → TAtT K G H vs ts fs → TAtT K G H ((k, v) :: vs) ((k, t) :: ts) (f ++ fs)
end
section
variable {K : PySem.W.Frag} {G H G' H' : Hp}
def Node (H : Hp) (a : Addr) : Prop := ∃ o, H a = some o ∧ NTb o ∧ (∀ f, o ≠ .ext f) ∧ ∀ xs, o ≠ .tup xs
theorem or_app {f fs : List Addr} {P : Addr → Prop} (h1 : ∀ a ∈ f, P a) (h2 : ∀ a ∈ fs, P a) : ∀ a ∈ f ++ fs, P a := fun a ha => by
  rcases List.mem_append.mp ha with q | q
  · exact h1 a q
  · exact h2 a q
theorem or_cons {x : Addr} {fs : List Addr} {P : Addr → Prop} (h1 : P x) (h2 : ∀ a ∈ fs, P a) : ∀ a ∈ x :: fs, P a := fun a ha => by
  rcases List.mem_cons.mp ha with rfl | q
  · exact h1
  · exact h2 a q
theorem tat_node {v : V} {t : OT} {fp : List Addr} (h : TAt K G H v t fp) : ∀ a ∈ fp, Node H a :=
  TAt.rec (motive_1 := fun v t fp _ => ∀ a ∈ fp, Node H a) (motive_2 := fun v t fp _ => ∀ a ∈ fp, Node H a) (motive_3 := fun v t fp _ => ∀ a ∈ fp, Node H a) (motive_4 := fun v t fp _ => ∀ a ∈ fp, Node H a)
    (fun _ _ h => nomatch h) (fun e _ ih => or_cons ⟨_, e, (fun _ z => by cases z), (fun _ z => by cases z), fun _ z => by cases z⟩ ih) (fun e _ ih => or_cons ⟨_, e, (fun _ z => by cases z), (fun _ z => by cases z), fun _ z => by cases z⟩ ih) (fun e _ ih => or_cons ⟨_, e, (fun _ z => by cases z), (fun _ z => by cases z), fun _ z => by cases z⟩ ih)
    (fun _ h => nomatch h) (fun _ _ i j => or_app i j) (fun _ h => nomatch h) (fun _ _ i j => or_app i j) (fun _ h => nomatch h) (fun _ _ i j => or_app i j) h
abbrev Tau := List (Addr × OT)
inductive TRoots (K : PySem.W.Frag) (G H : Hp) : Tau → List Addr → Prop
  | nil : TRoots K G H [] []
  | cons {a : Addr} {t : OT} {f : List Addr} {τ : Tau} {fs : List Addr} : TAt K G H (.ref a) t f → TRoots K G H τ fs → TRoots K G H ((a, t) :: τ) (f ++ fs)
theorem tr_node : ∀ {τ : Tau} {fp : List Addr}, TRoots K G H τ fp → ∀ a ∈ fp, Node H a
  | _, _, .nil => fun _ h => nomatch h
  | _, _, .cons a t => or_app (tat_node a) (tr_node t)
end
def mixH (H0 H : Hp) (fp : List Addr) : Hp := fun a => if a ∈ fp then H a else H0 a
theorem mix_in {H0 H : Hp} {fp : List Addr} {a : Addr} (h : a ∈ fp) : mixH H0 H fp a = H a := if_pos h
theorem mix_out {H0 H : Hp} {fp : List Addr} {a : Addr} (h : a ∉ fp) : mixH H0 H fp a = H0 a := if_neg h
theorem nt_congr {H H' : Hp} {a : Addr} (h : H a = H' a) : nt H a = nt H' a := by unfold nt; rw [h]
theorem ns_mix {H0 H : Hp} {fp : List Addr} {a : Addr} (hn : ∀ a ∈ fp, Node H a) (h : NS (mixH H0 H fp) a) : a ∉ fp ∧ NS H0 a := by
  have ne : a ∉ fp := fun z => by
    obtain ⟨o, e, n, _, nt⟩ := hn a z
    exact ns_no ((mix_in z).trans e) n nt h
  refine ⟨ne, ?_⟩
  unfold NS NF at h ⊢
  rw [nt_congr (mix_out ne), mix_out ne] at h
  exact h
variable [TabC] [ObjB]
structure OkT (K : PySem.W.Frag) (G0 H0 G H : Hp) (σ : L2.St) (ρ : Sto) (τ : Tau) : Prop where
  ex : ∃ fp, Ok K G0 (mixH H0 H fp) G H σ ρ ∧ TRoots K G H τ fp ∧ fp.Nodup ∧ (∀ a ∈ fp, (NF H0 a ∧ ObjB.B a = none) ∧ G0 a = none ∧ G a = none) ∧ Ex H0 H
structure DEndsT where
  nx : Sto → Tau → Prop
  rt : Slot → Prop
  ex : Exn → Sto → Prop
  bk : Sto → Tau → Prop := fun _ _ => False
  ct : Sto → Tau → Prop := fun _ _ => False
section
variable {X : Cx} {W : XW}
theorem OkT.base {K : PySem.W.Frag} {G0 H0 G H : Hp} {σ : L2.St} {ρ : Sto} {τ : Tau} (k : OkT K G0 H0 G H σ ρ τ) : Same G0 G ∧ Same G (nt H) ∧ ∀ a o, G a = some o → G0 a = some o ∨ NS H0 a := by
  obtain ⟨fp, k, tr, nd, fr, h0⟩ := k
  refine ⟨k.g0, k.gn, fun a o e => ?_⟩
  rcases k.nw a o e with z | z
  · exact .inl z
  · exact .inr (ns_mix (tr_node tr) z).2
end
end WH
namespace WH
open PySem PySem.Spec PyProof.Rows L2
section
variable [TabC] [ObjB] {X : Cx} {W : XW}
inductive RpP (K : PySem.W.Frag) (G : Hp) : List (V × V) → List (PyData × PyData) → Prop
  | nil : RpP K G [] []
  | cons {p : V × V} {d : PyData × PyData} {ps : List (V × V)} {ds : List (PyData × PyData)} : Rp K G p.1 d.1 → Rp K G p.2 d.2 → RpP K G ps ds → RpP K G (p :: ps) (d :: ds)
end
end WH
namespace WH
open PySem PySem.Spec L2 PyProof.Rows L2H LamX
def ecB (K : PySem.W.Frag) (D : Addr) : Bool :=
  decide (PySem.W.findIn K (.ref D) "__getattribute__" = some (some (.builtin "BaseException.__getattribute__"))) &&
  (decide (PySem.W.findIn K (.ref D) "__getattr__" = some none) &&
  (decide (PySem.W.subIn K (.ref D) (.type "BaseException") = some true) &&
  (PySem.W.hasDictIn K D &&
  (decide (PySem.W.findIn K (.ref D) "__class__" = some (some (.builtin "object.__class__"))) &&
  (decide (PySem.W.specialIn K (.builtin "object.__class__") "__get__" = some (some (.builtin "getset_descriptor.__get__"))) &&
  (decide (PySem.W.takesIn K (.builtin "object.__class__") = some true) &&
  decide (PySem.W.mroIn K D (.type "object") = some true)))))))
def calB (K : PySem.W.Frag) (nm : Str) : Bool := ecB K (He.ga K nm) && (xfB K (He.ga K nm) && ((["word", "at", "hand", "row", "most", "level"] : List Str).all (fun f => decide (PySem.W.findIn K (.ref (He.ga K nm)) f = some none)) &&
  callNames.all (fun c => decide (PySem.W.kitOne K (.ref (He.ga K nm)) (.ref (He.ga K c)) = some (decide (c = nm))))))
def clsT (K : PySem.W.Frag) : List (List Value) := [[.ref (He.ga K "BadTable"), .ref (He.ga K "BadText"), .ref (He.ga K "Undone")], [.ref (He.ga K "BadScheme")], [.ref (He.ga K "TooWide")], [.ref (He.ga K "NoScheme")], [.ref (He.ga K "HandError"), .ref (He.ga K "Missing"), .ref (He.ga K "NothingLeft")]]
def trB (K : PySem.W.Frag) (p : Str × Nat) : Bool := callNames.contains p.1 && (calB K p.1 && ((List.range p.2).all (fun j => decide (PySem.W.exmAny K (.ref (He.ga K p.1)) ((clsT K).getD j []) = some false)) && decide (PySem.W.exmAny K (.ref (He.ga K p.1)) ((clsT K).getD p.2 []) = some true)))
end WH
namespace WH
open PySem PySem.Spec L2
def Sm (ns : List Int) : Prop := ∀ z ∈ ns, 0 ≤ z ∧ z < 9973
abbrev Row := PyData × PyData
end WH
namespace WH
open PySem PySem.Spec L2
abbrev Tab := List (List (Int × Int))
def GoodOp (n : Nat) (op : List (Int × Int)) : Prop := op.length = n ∧ ∀ r ∈ op, (0 ≤ r.1 ∧ r.1 ≤ 9) ∧ 0 ≤ r.2 ∧ r.2 < n
structure GoodN (n : Nat) (t : Tab) : Prop where
  n1 : 1 ≤ n
  n5 : n ≤ 5
  o1 : 1 ≤ t.length
  o4 : t.length ≤ 4
  op : ∀ op ∈ t, GoodOp n op
theorem Sm.get {ns : List Int} (h : Sm ns) {n : Nat} (hn : n < ns.length) : 0 ≤ ns[n] ∧ ns[n] < 9973 := h _ (List.getElem_mem hn)
end WH
namespace WH
open PySem PySem.Spec L2
def IB : PyData → Prop
  | .int _ => True
  | .bool _ => True
  | _ => False
def RwIB (rs : List Row) : Prop := ∀ r ∈ rs, IB r.1 ∧ IB r.2
theorem RwIB.cons {a : Row} {b : List Row} (h1 : IB a.1 ∧ IB a.2) (h2 : RwIB b) : RwIB (a :: b) := fun r hr => by
  rcases List.mem_cons.mp hr with rfl | hr
  · exact h1
  · exact h2 r hr
def rowAt (t : Tab) (a b : Nat) : Int × Int := ((t.getD a []).getD b (0, 0))
def nxA (t : Tab) (o m : Nat) : Nat := (rowAt t o m).2.toNat
inductive Rch (t : Tab) (k : Nat) : Nat → Prop
  | base : Rch t k k
  | step {m o : Nat} : Rch t k m → o < t.length → Rch t k (nxA t o m)
def cntS (n : Nat) (S : Int → Bool) : Nat := (List.range n).countP fun m : Nat => S (m : Int)
structure RI (t : Tab) (n k : Nat) (S : Int → Bool) (c : Nat) (rows : List Nat) : Prop where
  sub : ∀ x : Int, S x = true → ∃ m : Nat, x = m ∧ m < n ∧ Rch t k m
  here : S (k : Int) = true
  rw : ∀ m ∈ rows, S ((m : Nat) : Int) = true
  cnt : c = cntS n S
def cntL (n : Nat) (L : List Nat) : Nat := (List.range n).countP fun m : Nat => decide (m ∈ L)
structure HL (t : Tab) (n k : Nat) (L : List Nat) : Prop where
  sub : ∀ x ∈ L, x < n ∧ Rch t k x
  here : k ∈ L
  len : 2 * L.length ≤ 2 ^ cntL n L
end WH
namespace WH
open PySem PySem.Spec L2
def xn_law : List (Str × Nat) := [("NoStand", 4)]
end WH
namespace WH
open PySem PySem.Spec L2
abbrev kA (as : List Addr) (g : Addr → Option Obj) : PySem.W.Frag := He.frT g as
abbrev kk (as : List Addr) (s : PySem.W.SharedT) : PySem.W.Frag := kA as (HandSHeadRun.getT s)
def obsA (as : List Addr) (fa : List He.Fa) (fn : List He.DefD) (ts : List He.Tab) (tf : List He.Defn) (ex : PySem.W.Frag → Bool) (g : Addr → Option Obj) : He.AlX := (He.obsT fa fn ts (kA as g), ex (kA as g) && He.tabsB g tf (kA as g))
theorem saysA {as : List Addr} {fa : List He.Fa} {fn : List He.DefD} {ts : List He.Tab} {tf : List He.Defn} {ex : PySem.W.Frag → Bool} {w : World} {h : Heap} (e : obsA as fa fn ts tf ex h.get? = He.valX fn ts w) : He.SaysX fa fn ts tf ex w h (kA as h.get?) := by
  obtain ⟨h1, h2⟩ := Bool.and_eq_true_iff.mp (show (ex (kA as h.get?) && He.tabsB h.get? tf (kA as h.get?)) = true from congrArg Prod.snd e)
  have at_ : ∀ p ∈ tf, PySem.W.codeHdIn (kA as h.get?) (He.cT (kA as h.get?) p).1 (He.cT (kA as h.get?) p).2 = true ∧ ∃ o, h.get? (He.cT (kA as h.get?) p).2 = some o ∧ He.emptyTab o = true := by
    intro p hp
    have q := Bool.and_eq_true_iff.mp (List.all_eq_true.mp h2 p hp)
    refine ⟨q.1, ?_⟩
    have q2 := q.2
    split at q2
    · rename_i o ho
      exact ⟨o, ho, q2⟩
    · cases q2
  refine ⟨congrArg Prod.fst e, h1, fun p hp => (at_ p hp).1, fun p hp => ?_, fun p hp => ?_⟩
  · obtain ⟨_, o, e1, e2⟩ := at_ p hp
    exact He.frT_none e1 e2
  · obtain ⟨_, o, e1, e2⟩ := at_ p hp
    exact e1.trans (congrArg some (He.emptyTab_eq e2))
def hookA (as : List Addr) (fa : List He.Fa) (fn : List He.DefD) (ts : List He.Tab) (tf : List He.Defn) (ex : PySem.W.Frag → Bool) : PySem.W.Hook where
  α := He.AlX
  obs := fun s => obsA as fa fn ts tf ex s.heap.get?
  val := fun w => He.valX fn ts w
  says := fun w h => ∃ K : PySem.W.Frag, K.In h ∧ He.SaysX fa fn ts tf ex w h K
  of := fun _ _ e => ⟨_, He.frT_in, saysA e⟩
  keeps := fun _ _ _ ⟨K, hK, c⟩ k => ⟨K, PySem.W.Frag.In.keeps hK k, ⟨c.t, c.more, c.hd, c.out, fun p hp => k _ _ (c.empty p hp)⟩⟩
theorem all_flat {α : Type} {p : α → Bool} : ∀ {ls : List (List α)}, (∀ l ∈ ls, l.all p = true) → ls.flatten.all p = true
  | [], _ => rfl
  | l :: ls, h => by
    rw [List.flatten_cons, List.all_append, h l List.mem_cons_self, all_flat fun m hm => h m (List.mem_cons_of_mem _ hm)]
    rfl
theorem map_flat {α β : Type} {f g : α → β} : ∀ {ls : List (List α)}, (∀ l ∈ ls, l.map f = l.map g) → ls.flatten.map f = ls.flatten.map g
  | [], _ => rfl
  | l :: ls, h => by rw [List.flatten_cons, List.map_append, List.map_append, h l List.mem_cons_self, map_flat fun m hm => h m (List.mem_cons_of_mem _ hm)]
theorem run_join {α β : Type} {o : Option PySem.W.SharedT} {l1 : PySem.W.SharedT → α} {l2 : PySem.W.SharedT → β} {v1 : α} {v2 : β} {as : List Addr} {fas : List (List He.Fa)} {fns : List (List He.DefD)} {ts : List He.Tab} {tf : List He.Defn} {ex : PySem.W.Frag → Bool} {w : World}
    (h0 : o.map (fun s => (l1 s, l2 s)) = some (v1, v2)) (hA : ∀ fa ∈ fas, o.map (fun s => fa.all fun f => f.ok (kk as s)) = some true) (hB : ∀ fn ∈ fns, o.map (fun s => ((fn.all fun d => d.ok (kk as s)), fn.map fun d => He.fnW (kk as s) d.at_)) = some (true, fn.map He.DefD.val))
    (hC : o.map (fun s => (ts.map (fun t => He.dicW (kk as s) (t.1 (kk as s))), ex (kk as s) && He.tabsB (HandSHeadRun.getT s) tf (kk as s))) = some (ts.map (fun t => some (He.keysIn w.params t.2)), true)) :
    o.map (fun s => (l1 s, l2 s, obsA as fas.flatten fns.flatten ts tf ex (HandSHeadRun.getT s))) = some (v1, v2, He.valX fns.flatten ts w) := by
  cases o with
  | none => cases h0
  | some s =>
    have e0 := Option.some.inj h0
    have e1 : l1 s = v1 := congrArg Prod.fst e0
    have e2 : l2 s = v2 := congrArg Prod.snd e0
    have eC := Option.some.inj hC
    have c1 : ts.map (fun t => He.dicW (kk as s) (t.1 (kk as s))) = ts.map (fun t => some (He.keysIn w.params t.2)) := congrArg Prod.fst eC
    have c2 : (ex (kk as s) && He.tabsB (HandSHeadRun.getT s) tf (kk as s)) = true := congrArg Prod.snd eC
    have a1 : (fas.flatten.all fun f => f.ok (kk as s)) = true := all_flat fun l hl => Option.some.inj (hA l hl)
    have b1 : (fns.flatten.all fun d => d.ok (kk as s)) = true := all_flat fun l hl => congrArg Prod.fst (Option.some.inj (hB l hl))
    have b2 : (fns.flatten.map fun d => He.fnW (kk as s) d.at_) = fns.flatten.map He.DefD.val := map_flat fun l hl => congrArg Prod.snd (Option.some.inj (hB l hl))
    show some (l1 s, l2 s, (((fas.flatten.all fun f => f.ok (kk as s)) && fns.flatten.all fun d => d.ok (kk as s), fns.flatten.map fun d => He.fnW (kk as s) d.at_), ts.map fun t => He.dicW (kk as s) (t.1 (kk as s))), ex (kk as s) && He.tabsB (HandSHeadRun.getT s) tf (kk as s)) = some (v1, v2, (((true, fns.flatten.map He.DefD.val)), ts.map fun t => some (He.keysIn w.params t.2)), true)
    rw [e1, e2, a1, b1, b2, c1, c2]
    rfl
end WH
namespace WH
open PySem PySem.Spec L2 L2H
variable [TabC]
def top (i : Nat) : Stmt := PySem.Challenge.pw_whofirst_k03_stands_reached.main.body.getD i (.Pass ⟨0, 0, 0, 0⟩)
section
variable {P : Program} {w : World} {K : PySem.W.Frag} {mg : Str → Option Value} {base : Heap}
abbrev s__law_called : Stmt := top 37
abbrev s__law_tried : Stmt := top 38
abbrev i_NoStand : Stmt := (cBody (top 19)).getD 0 (.Pass ⟨0, 0, 0, 0⟩)
abbrev i_BadTable : Stmt := (cBody (top 2)).getD 0 (.Pass ⟨0, 0, 0, 0⟩)
abbrev s_is_whole : Stmt := top 26
abbrev s_is_operation : Stmt := top 27
abbrev s_look_table : Stmt := top 28
abbrev s_look_stand : Stmt := top 29
abbrev s_reached : Stmt := top 30
abbrev s__law_numbers : Stmt := top 32
abbrev s__law_known : Stmt := top 33
abbrev s__law_rows : Stmt := top 34
abbrev s__law_table : Stmt := top 35
abbrev s__law_same : Stmt := top 36
abbrev s_law : Stmt := top 39
end
section
def ads : List PySem.Addr := ([3, 6, 4, 24, 44, 63, 83, 103, 123, 142, 162, 182, 202, 221, 240, 260, 280, 300, 320, 339, 351, 372, 392, 412, 432, 442, 447, 454, 461, 468, 475, 482, 487, 492, 497, 502, 509, 514, 0, 23, 43, 62, 82, 102, 122, 141, 161, 181, 201, 220, 239, 259, 279, 299, 319, 338, 350, 371, 391, 411, 431, 441, 446, 453, 460, 467, 474, 481, 486, 491, 496, 501, 508, 513, 22, 25, 41, 42, 60, 61, 80, 81, 100, 101, 120, 121, 139, 140, 159, 160, 179, 180, 199, 200, 218, 219, 237, 238, 257, 258] : List PySem.Addr) ++ ([277, 278, 297, 298, 317, 318, 336, 337, 349, 352, 369, 370, 389, 390, 409, 410, 429, 430, 433, 436, 437, 438, 439, 440, 443, 444, 445, 448, 449, 450, 451, 452, 455, 456, 457, 458, 459, 462, 463, 464, 465, 466, 469, 470, 471, 472, 473, 476, 477, 478, 479, 480, 483, 484, 485, 488, 489, 490, 493, 494, 495, 498, 499, 500, 503, 504, 505, 506, 507, 510, 511, 512, 40, 59, 79, 73, 99, 93, 119, 113, 138, 158, 152, 178, 172, 198, 192, 217, 236, 256, 250, 276, 270, 296, 290, 316, 310, 335, 368, 362] : List PySem.Addr) ++ ([388, 382, 408, 402, 428, 422, 35, 36, 37, 38, 39, 54, 55, 56, 57, 58, 74, 75, 76, 77, 78, 94, 95, 96, 97, 98, 114, 115, 116, 117, 118, 133, 134, 135, 136, 137, 153, 154, 155, 156, 157, 173, 174, 175, 176, 177, 193, 194, 195, 196, 197, 212, 213, 214, 215, 216, 231, 232, 233, 234, 235, 251, 252, 253, 254, 255, 271, 272, 273, 274, 275, 291, 292, 293, 294, 295, 311, 312, 313, 314, 315, 330, 331, 332, 333, 334, 363, 364, 365, 366, 367, 383, 384, 385, 386, 387, 403, 404, 405, 406] : List PySem.Addr) ++ ([407, 423, 424, 425, 426, 427] : List PySem.Addr)
def dd0 : He.DefD := ⟨("is_whole", none), "is_whole", "is_whole", defArgs s_is_whole, defBody s_is_whole, defScope s_is_whole, [], []⟩
def dd1 : He.DefD := ⟨("is_operation", none), "is_operation", "is_operation", defArgs s_is_operation, defBody s_is_operation, defScope s_is_operation, [], []⟩
def dd2 : He.DefD := ⟨("look_table", none), "look_table", "look_table", defArgs s_look_table, defBody s_look_table, defScope s_look_table, [], []⟩
def dd3 : He.DefD := ⟨("look_stand", none), "look_stand", "look_stand", defArgs s_look_stand, defBody s_look_stand, defScope s_look_stand, [], []⟩
def dd4 : He.DefD := ⟨("reached", none), "reached", "reached", defArgs s_reached, defBody s_reached, defScope s_reached, [], []⟩
def dd5 : He.DefD := ⟨("_law_numbers", none), "_law_numbers", "_law_numbers", defArgs s__law_numbers, defBody s__law_numbers, defScope s__law_numbers, [], []⟩
def dd6 : He.DefD := ⟨("_law_known", none), "_law_known", "_law_known", defArgs s__law_known, defBody s__law_known, defScope s__law_known, [], []⟩
def dd7 : He.DefD := ⟨("_law_rows", none), "_law_rows", "_law_rows", defArgs s__law_rows, defBody s__law_rows, defScope s__law_rows, [], []⟩
def dd8 : He.DefD := ⟨("_law_table", none), "_law_table", "_law_table", defArgs s__law_table, defBody s__law_table, defScope s__law_table, [], []⟩
def dd9 : He.DefD := ⟨("_law_same", none), "_law_same", "_law_same", defArgs s__law_same, defBody s__law_same, defScope s__law_same, [], []⟩
def dd10 : He.DefD := ⟨("law", none), "law", "law", defArgs s_law, defBody s_law, defScope s_law, [], []⟩
def dd11 : He.DefD := ⟨("_law_called", none), "_law_called", "_law_called", defArgs s__law_called, defBody s__law_called, defScope s__law_called, [], []⟩
def dd12 : He.DefD := ⟨("_law_tried", none), "_law_tried", "_law_tried", defArgs s__law_tried, defBody s__law_tried, defScope s__law_tried, [], []⟩
def dd13 : He.DefD := ⟨("NoStand", some "__init__"), "__init__", "NoStand.__init__", defArgs i_NoStand, defBody i_NoStand, defScope i_NoStand, [.str ""], []⟩
def dd14 : He.DefD := ⟨("BadTable", some "__init__"), "__init__", "BadTable.__init__", defArgs i_BadTable, defBody i_BadTable, defScope i_BadTable, [], []⟩
def fa_0 : List He.Fa := ([.glo "is_whole", .glo "is_operation", .glo "look_table", .glo "look_stand", .glo "reached", .glo "_law_numbers", .glo "_law_known", .glo "_law_rows", .glo "_law_table", .glo "_law_same", .glo "law", .glo "NoStand", .glo "BadTable", .glo "BadText", .glo "BadChoice", .glo "BadOrder", .glo "BadMany", .glo "BadScheme", .glo "BadWishes", .glo "BadTurn", .glo "Full", .glo "TooWide", .glo "NoScheme", .glo "Ended", .glo "Still", .glo "Busy", .glo "Idle", .glo "Undone", .glo "NoOperation", .glo "NoHand"] : List He.Fa) ++ ([.glo "NothingLeft", .glo "HandError", .glo "Missing", .glo "_law_tried", .glo "_law_called", .free "len", .free "range", .free "tuple", .free "list", .free "all", .free "any", .free "isinstance", .free "int", .free "bool", .free "str", .free "sorted", .free "enumerate", .free "zip", .free "max", .free "min", .free "set", .free "dict", .free "sum", .free "repr", .int "MOST_OPERATIONS" 4, .int "MOST_STANDS" 5] : List He.Fa)
def fn_0 : List He.DefD := ([dd0, dd1, dd2, dd3, dd4, dd5, dd6, dd7, dd8, dd9, dd10, dd11, dd12, dd13, dd14] : List He.DefD)
def fas : List (List He.Fa) := [fa_0]
def fns : List (List He.DefD) := [fn_0]
def fn : List He.DefD := fns.flatten
def fa : List He.Fa := fas.flatten
def exB (K : PySem.W.Frag) : Bool := xcB K "NoStand" ["word"] && xcB K "BadTable" ["word", "at"] && xn_law.all (trB K)
abbrev R : PySem.W.OpenRow := PySem.W.OpenLaw.row PySem.Challenge.rw_whofirst_k03_stands_reached
abbrev hk : PySem.W.Hook := hookA ads fa fn ([] : List He.Tab) [("law", none)] exB
def ob (s : PySem.W.SharedT) : He.AlX := obsA ads fa fn ([] : List He.Tab) [("law", none)] exB (HandSHeadRun.getT s)
def loose : List PySem.Str := (["HandError", "BadTable", "BadText", "BadChoice", "BadOrder", "BadMany", "BadScheme", "BadWishes", "BadTurn", "Full", "TooWide", "NoScheme", "Ended", "Still", "Busy", "Idle", "Undone", "Missing", "NoStand", "NoOperation", "NoHand", "NothingLeft", "MOST_STANDS", "MOST_OPERATIONS", "is_whole", "is_operation", "look_table", "look_stand", "reached", "_law_numbers"] : List PySem.Str) ++ (["_law_known", "_law_rows", "_law_table", "_law_same", "_law_called", "_law_tried"] : List PySem.Str)
theorem run0 (w : World) : ∀ os : OsState, (HandSHeadRun.endF (HandSHeadRun.stepQ (HandSHeadRun.denQ HandSHeadRun.tabQ) R.prog (w)) 20000 R.prog (w) os).map (fun s => (HandSHeadRun.looksF R.prog (PySem.W.boot_heap (w).params) s.abs, HandSHeadRun.seenQ (PySem.W.view R.prog [39]) loose (PySem.importedModules R.prog.main.body) (fun s => PySem.W.xlAt (PySem.W.view R.prog [39]) [] s && PySem.W.recOk R.toRowW.records s) s.abs)) = some (true, PySem.W.openGood (PySem.W.view R.prog [39]) loose) := by
  intro os
  kernel_rfl
theorem runA0 (w : World) : ∀ os : OsState, (HandSHeadRun.endF (HandSHeadRun.stepQ (HandSHeadRun.denQ HandSHeadRun.tabQ) R.prog (w)) 20000 R.prog (w) os).map (fun s => fa_0.all fun f => f.ok (kk ads s)) = some true := by
  intro os
  kernel_rfl
theorem runB0 (w : World) : ∀ os : OsState, (HandSHeadRun.endF (HandSHeadRun.stepQ (HandSHeadRun.denQ HandSHeadRun.tabQ) R.prog (w)) 20000 R.prog (w) os).map (fun s => ((fn_0.all fun d => d.ok (kk ads s)), fn_0.map fun d => He.fnW (kk ads s) d.at_)) = some (true, fn_0.map He.DefD.val) := by
  intro os
  kernel_rfl
theorem runC (w : World) : ∀ os : OsState, (HandSHeadRun.endF (HandSHeadRun.stepQ (HandSHeadRun.denQ HandSHeadRun.tabQ) R.prog (w)) 20000 R.prog (w) os).map (fun s => (([] : List He.Tab).map (fun t => He.dicW (kk ads s) (t.1 (kk ads s))), exB (kk ads s) && He.tabsB (HandSHeadRun.getT s) [("law", none)] (kk ads s))) = some (([] : List He.Tab).map (fun t => some (He.keysIn (w).params t.2)), true) := by
  intro os
  kernel_rfl
theorem run (w : World) : HandSHeadRun.RunEq R (PySem.W.view R.prog [39]) hk ob 20000 loose w := by
  intro os
  refine run_join (run0 w os) ?_ ?_ (runC w os)
  · intro fa h
    simp only [fas, List.mem_cons, List.not_mem_nil, or_false] at h
    rcases h with rfl
    · exact runA0 w os
  · intro fn h
    simp only [fns, List.mem_cons, List.not_mem_nil, or_false] at h
    rcases h with rfl
    · exact runB0 w os
end
end WH
open PySem PySem.W PySem.Calls PyProof.Rows
end FirstPart
set_option Elab.async false
set_option linter.all false
set_option autoImplicit false
set_option maxRecDepth 100000
set_option maxHeartbeats 4000000
namespace WH
open PySem PySem.Spec L2
def tupO (its : List Value) : Obj := { cls := .type "tuple", data := .seq its.toArray }
def tupN (its : List Value) (xs : List V) : HO := .frz (tupO its) (.tup xs)
theorem SqN.new {K : PySem.W.Frag} {H : Hp} {a : Addr} {its : List Value} {xs : List V} (h : H a = some (tupN its xs)) : SqN K H a xs := .inl ⟨_, h, rfl⟩
def wk (ds : List PyData) : PyData := .dict [(.none, .tuple ds)]
section
variable {K : PySem.W.Frag} {H H' : Hp}
theorem canLay_list {ds : List PyData} (h : (PyData.list ds).canLay0 = true) : PyData.canLayAll0 ds = true := by simpa [PyData.canLay0] using h
theorem canLay_tuple {ds : List PyData} (h : (PyData.tuple ds).canLay0 = true) : PyData.canLayAll0 ds = true := by simpa [PyData.canLay0] using h
theorem canLay_cons {d : PyData} {ds : List PyData} (h : PyData.canLayAll0 (d :: ds) = true) : d.canLay0 = true ∧ PyData.canLayAll0 ds = true := by simpa [PyData.canLayAll0] using h
theorem rp_dp {v : V} {d : PyData} (h : Rp K H v d) : d.canLay0 = true → Dp K H v d :=
  Rp.rec (motive_1 := fun v d _ => d.canLay0 = true → Dp K H v d) (motive_2 := fun xs ds _ => PyData.canLayAll0 ds = true → DpAll K H xs ds) (motive_3 := fun xs ds _ => True) (motive_4 := fun xs ds _ => True) (motive_5 := fun xs ds _ => True)
    (fun _ => .non) (fun b _ => .bl b) (fun b _ => .int b) (fun b _ => .str b) (fun h _ i c => .lst (SqL.of h) (i (canLay_list c))) (fun h _ i c => .tup h.t (i (canLay_tuple c))) (fun h _ i c => by simp [PyData.canLay0] at c) (fun h _ i c => by simp [PyData.canLay0] at c) (fun h _ i c => by simp [PyData.canLay0] at c) (fun h _ i c => by simp [PyData.canLay0] at c) (fun h c => by simp [PyData.canLay0] at c)
    (fun _ => .nil) (fun _ _ i j c => .cons (i (canLay_cons c).1) (j (canLay_cons c).2)) trivial (fun _ _ _ _ => trivial) trivial (fun _ _ _ _ => trivial) trivial (fun _ _ _ _ _ _ _ _ => trivial) h
theorem rpa_length : ∀ {xs : List V} {ds : List PyData}, RpAll K H xs ds → xs.length = ds.length
  | _, _, .nil => rfl
  | _, _, .cons _ t => by simp [rpa_length t]
theorem rpa_get : ∀ {xs : List V} {ds : List PyData} {i : Nat} {d : PyData}, RpAll K H xs ds → ds[i]? = some d → ∃ v, xs[i]? = some v ∧ Rp K H v d
  | _, _, _, _, .nil, e => by simp at e
  | _, _, 0, _, .cons h _, e => by simp at e; subst e; exact ⟨_, rfl, h⟩
  | _, _, i + 1, d, .cons _ t, e => by
    obtain ⟨v, h1, h2⟩ := rpa_get (i := i) (d := d) t (by simpa using e)
    exact ⟨v, by simpa using h1, h2⟩
theorem rpa_append : ∀ {xs ys : List V} {ds es : List PyData}, RpAll K H xs ds → RpAll K H ys es → RpAll K H (xs ++ ys) (ds ++ es)
  | _, _, _, _, .nil, h => h
  | _, _, _, _, .cons a t, h => .cons a (rpa_append t h)
theorem rpa_take : ∀ {xs : List V} {ds : List PyData} (n : Nat), RpAll K H xs ds → RpAll K H (xs.take n) (ds.take n)
  | _, _, 0, _ => .nil
  | _, _, _ + 1, .nil => .nil
  | _, _, n + 1, .cons a t => .cons a (rpa_take n t)
theorem rpa_drop : ∀ {xs : List V} {ds : List PyData} (n : Nat), RpAll K H xs ds → RpAll K H (xs.drop n) (ds.drop n)
  | _, _, 0, h => h
  | _, _, _ + 1, .nil => .nil
  | _, _, n + 1, .cons _ t => rpa_drop n t
theorem rpa_rep {xs : List V} {ds : List PyData} (h : RpAll K H xs ds) : ∀ n : Nat, RpAll K H (List.replicate n xs).flatten (List.replicate n ds).flatten
  | 0 => .nil
  | n + 1 => by
    rw [List.replicate_succ, List.replicate_succ, List.flatten_cons, List.flatten_cons]
    exact rpa_append h (rpa_rep h n)
theorem rpa_ints : ∀ (ns : List Int), RpAll K H (ns.map V.int) (ns.map PyData.int)
  | [] => .nil
  | n :: ns => .cons (.int n) (rpa_ints ns)
theorem rpa_strs : ∀ (ns : List Str), RpAll K H (ns.map V.str) (ns.map PyData.str)
  | [] => .nil
  | n :: ns => .cons (.str n) (rpa_strs ns)
theorem rpa_ofInts : ∀ {xs : List V} {ns : List Int}, RpAll K H xs (ns.map PyData.int) → xs = ns.map V.int
  | _, [], h => by cases h; rfl
  | _, n :: ns, h => by
    cases h with
    | cons a t => cases a; rw [rpa_ofInts t]; rfl
theorem rpa_ofBools : ∀ {xs : List V} {ns : List Bool}, RpAll K H xs (ns.map PyData.bool) → xs = ns.map V.bl
  | _, [], h => by cases h; rfl
  | _, n :: ns, h => by
    cases h with
    | cons a t => cases a; rw [rpa_ofBools t]; rfl
theorem rpa_ofStrs : ∀ {xs : List V} {ns : List Str}, RpAll K H xs (ns.map PyData.str) → xs = ns.map V.str
  | _, [], h => by cases h; rfl
  | _, n :: ns, h => by
    cases h with
    | cons a t => cases a; rw [rpa_ofStrs t]; rfl
end
theorem same_mut {G H : Hp} {p : Addr} {o : HO} (e : Same G H) (h : G p = none) : Same G (upd H p o) := fun a u ha => by
  rw [upd_ne (ne_of_none ha h)]
  exact e a u ha
theorem kv_none {K : PySem.W.Frag} {G : Hp} {xs : List (Key × V)} {ds : List (PyData × PyData)} (h : RpKv K G xs ds) : ∀ d r, ds ≠ (.none, d) :: r := fun d r e => by
  cases h with
  | nil => cases e
  | @cons k _ _ _ _ _ _ =>
    have := congrArg (fun l : List (PyData × PyData) => l.head?.map (·.1)) e
    cases k <;> cases this
theorem tv_none {K : PySem.W.Frag} {G : Hp} {xs : List (List Key × V)} {ds : List (PyData × PyData)} (h : RpTv K G xs ds) : ∀ d r, ds ≠ (.none, d) :: r := fun d r e => by
  cases h with
  | nil => cases e
  | cons _ _ =>
    have := congrArg (fun l : List (PyData × PyData) => l.head?.map (·.1)) e
    cases this
theorem rp_wk {K : PySem.W.Frag} {G : Hp} {v : V} {ds : List PyData} (h : Rp K G v (wk ds)) : ∃ a xs, v = .ref a ∧ SqT K G a xs ∧ RpAll K G xs ds := by
  generalize e : wk ds = d at h
  unfold wk at e
  cases h with
  | tpw h1 h2 => cases e; exact ⟨_, _, rfl, h1, h2⟩
  | dik _ h2 => cases e; exact (kv_none h2 _ _ rfl).elim
  | dit _ h2 => cases e; exact (tv_none h2 _ _ rfl).elim
  | _ => cases e
theorem nt_ntb {H : Hp} {a : Addr} {o : HO} (h : nt H a = some o) : NTb o := fun ps z => by
  unfold nt at h
  split at h
  · cases h
  · rename_i n
    exact n ps (by rw [h, z])
theorem nf_of {H : Hp} {a : Addr} (h : H a = none) : NF H a := by
  unfold NF nt
  rw [h]
theorem nt_upd {H : Hp} {p : Addr} {o : HO} (ho : NTb o) : nt (upd H p o) = upd (nt H) p o := by
  funext b
  by_cases hb : b = p
  · subst hb
    rw [upd_same]
    exact nt_of upd_same ho
  · rw [upd_ne hb]
    unfold nt
    rw [upd_ne hb]
theorem Ex.refl [TabC] (H : Hp) : Ex H H := ⟨Same.refl _, id⟩
theorem ex_upd [TabC] {H : Hp} {p : Addr} {o : HO} (h : H p = none) (ho : NTb o) : Ex H (upd H p o) :=
  ⟨by rw [nt_upd ho]; exact same_upd (nf_of h), fun t => t.ext (same_upd h)⟩
theorem ntb_lst {xs : List V} : NTb (.lst xs) := fun _ z => by cases z
theorem sameNil {H : Hp} : Same (@ObjB.B objNil) H := fun _ _ e => nomatch e
variable [TabC]
variable [ObjB]
section
variable {K : PySem.W.Frag} {G0 H0 G H G' H' : Hp} {σ : L2.St} {ρ : Sto}
theorem Ok.share (k : Ok K G0 H0 G H σ ρ) {p : Addr} {o : HO} (hp : H p = none) (ho : NTb o := by intro _ z; cases z) : Ok K G0 H0 (upd G p o) (upd H p o) σ ρ :=
  k.grow (same_upd (k.gh.free hp)) (ex_upd hp ho) (fun a u e => by
    rw [nt_upd ho]
    by_cases ha : a = p
    · subst ha; rw [upd_same] at e; rw [upd_same]; exact e
    · rw [upd_ne ha] at e; rw [upd_ne ha]; exact k.gn a u e) (fun a u e => by
    by_cases ha : a = p
    · subst ha; exact .inr (.inl (nf_of hp))
    · rw [upd_ne ha] at e; exact .inl e)
theorem Ok.fresh (k : Ok K G0 H0 G H σ ρ) {p : Addr} {o : HO} (hp : H p = none) (ho : NTb o := by intro _ z; cases z) : Ok K G0 H0 G (upd H p o) σ ρ :=
  k.grow (Same.refl G) (ex_upd hp ho) (by rw [nt_upd ho]; exact same_mut k.gn (k.gh.free hp)) fun a u e => .inl e
theorem getElem_set_eq {α : Type} {l : List α} {i j : Nat} {x : α} : (l.set i x)[j]? = if i = j then (if i < l.length then some x else none) else l[j]? := by
  rw [List.getElem?_set]
theorem Ok.setSh (k : Ok K G0 H0 G H σ ρ) {i : Nat} {v : V} {d : PyData} (hv : Rp K G v d) : Ok K G0 H0 G H (σ.set i (some v)) (ρ.set i (.sh d)) where
  gn := k.gn
  g0 := k.g0
  h0 := k.h0
  tb := k.tb
  nw := k.nw
  len := by rw [List.length_set, List.length_set]; exact k.len
  sh := fun j e h => by
    rw [getElem_set_eq] at h ⊢
    by_cases hij : i = j
    · rw [if_pos hij] at h ⊢
      rw [k.len]
      by_cases hl : i < ρ.length
      · rw [if_pos hl] at h ⊢
        cases h
        exact ⟨v, rfl, hv⟩
      · rw [if_neg hl] at h; cases h
    · rw [if_neg hij] at h ⊢
      exact k.sh j e h
  ow := fun j o h => by
    rw [getElem_set_eq] at h ⊢
    by_cases hij : i = j
    · rw [if_pos hij] at h
      by_cases hl : i < ρ.length
      · rw [if_pos hl] at h; cases h
      · rw [if_neg hl] at h; cases h
    · rw [if_neg hij] at h ⊢
      exact k.ow j o h
  ap := fun j l o u a hjl h1 h2 h3 => by
    rw [getElem_set_eq] at h1 h2 h3 ⊢
    by_cases hij : i = j
    · rw [if_pos hij] at h1
      by_cases hl : i < ρ.length
      · rw [if_pos hl] at h1; cases h1
      · rw [if_neg hl] at h1; cases h1
    · by_cases hil : i = l
      · rw [if_pos hil] at h2
        by_cases hl : i < ρ.length
        · rw [if_pos hl] at h2; cases h2
        · rw [if_neg hl] at h2; cases h2
      · rw [if_neg hij] at h1 h3
        rw [if_neg hil] at h2 ⊢
        exact k.ap j l o u a hjl h1 h2 h3
  rw := fun j v x h => by
    rw [getElem_set_eq] at h ⊢
    by_cases hij : i = j
    · rw [if_pos hij] at h
      by_cases hl : i < ρ.length
      · rw [if_pos hl] at h; cases h
      · rw [if_neg hl] at h; cases h
    · rw [if_neg hij] at h ⊢
      exact k.rw j v x h
  tr := fun j b t h => by
    rw [getElem_set_eq] at h ⊢
    by_cases hij : i = j
    · rw [if_pos hij] at h
      by_cases hl : i < ρ.length
      · rw [if_pos hl] at h; cases h
      · rw [if_neg hl] at h; cases h
    · rw [if_neg hij] at h ⊢
      exact k.tr j b t h
  bB := k.bB
theorem Ok.setNo (k : Ok K G0 H0 G H σ ρ) {i : Nat} {v : Option V} : Ok K G0 H0 G H (σ.set i v) (ρ.set i .no) where
  gn := k.gn
  g0 := k.g0
  h0 := k.h0
  tb := k.tb
  nw := k.nw
  len := by rw [List.length_set, List.length_set]; exact k.len
  sh := fun j e h => by
    rw [getElem_set_eq] at h ⊢
    by_cases hij : i = j
    · rw [if_pos hij] at h
      by_cases hl : i < ρ.length
      · rw [if_pos hl] at h; cases h
      · rw [if_neg hl] at h; cases h
    · rw [if_neg hij] at h ⊢
      exact k.sh j e h
  ow := fun j o h => by
    rw [getElem_set_eq] at h ⊢
    by_cases hij : i = j
    · rw [if_pos hij] at h
      by_cases hl : i < ρ.length
      · rw [if_pos hl] at h; cases h
      · rw [if_neg hl] at h; cases h
    · rw [if_neg hij] at h ⊢
      exact k.ow j o h
  ap := fun j l o u a hjl h1 h2 h3 => by
    rw [getElem_set_eq] at h1 h2 h3 ⊢
    by_cases hij : i = j
    · rw [if_pos hij] at h1
      by_cases hl : i < ρ.length
      · rw [if_pos hl] at h1; cases h1
      · rw [if_neg hl] at h1; cases h1
    · by_cases hil : i = l
      · rw [if_pos hil] at h2
        by_cases hl : i < ρ.length
        · rw [if_pos hl] at h2; cases h2
        · rw [if_neg hl] at h2; cases h2
      · rw [if_neg hij] at h1 h3
        rw [if_neg hil] at h2 ⊢
        exact k.ap j l o u a hjl h1 h2 h3
  rw := fun j v x h => by
    rw [getElem_set_eq] at h ⊢
    by_cases hij : i = j
    · rw [if_pos hij] at h
      by_cases hl : i < ρ.length
      · rw [if_pos hl] at h; cases h
      · rw [if_neg hl] at h; cases h
    · rw [if_neg hij] at h ⊢
      exact k.rw j v x h
  tr := fun j b t h => by
    rw [getElem_set_eq] at h ⊢
    by_cases hij : i = j
    · rw [if_pos hij] at h
      by_cases hl : i < ρ.length
      · rw [if_pos hl] at h; cases h
      · rw [if_neg hl] at h; cases h
    · rw [if_neg hij] at h ⊢
      exact k.tr j b t h
  bB := k.bB
theorem Ok.setOw (k : Ok K G0 H0 G H σ ρ) {i : Nat} {p : Addr} {ho : HO} {o : OD} (hp : H p = some ho) (hg : G p = none) (h0 : NF H0 p) (hx : HoOk K G ho o) (un : ∀ (j : Nat) (u : OD), i ≠ j → ρ[j]? = some (Slot.ow u) → σ[j]? ≠ some (some (V.ref p))) :
    Ok K G0 H0 G H (σ.set i (some (.ref p))) (ρ.set i (.ow o)) where
  gn := k.gn
  g0 := k.g0
  h0 := k.h0
  tb := k.tb
  nw := k.nw
  len := by rw [List.length_set, List.length_set]; exact k.len
  sh := fun j e h => by
    rw [getElem_set_eq] at h ⊢
    by_cases hij : i = j
    · rw [if_pos hij] at h
      by_cases hl : i < ρ.length
      · rw [if_pos hl] at h; cases h
      · rw [if_neg hl] at h; cases h
    · rw [if_neg hij] at h ⊢
      exact k.sh j e h
  ow := fun j u h => by
    rw [getElem_set_eq] at h ⊢
    by_cases hij : i = j
    · rw [if_pos hij] at h ⊢
      rw [k.len]
      by_cases hl : i < ρ.length
      · rw [if_pos hl] at h ⊢
        cases h
        exact ⟨p, ho, rfl, hp, hg, h0, hx⟩
      · rw [if_neg hl] at h; cases h
    · rw [if_neg hij] at h ⊢
      exact k.ow j u h
  ap := fun j l u u' a hjl h1 h2 h3 => by
    rw [getElem_set_eq] at h1 h2 h3 ⊢
    by_cases hij : i = j
    · have hil : ¬ i = l := fun z => hjl (hij.symm.trans z)
      rw [if_neg hil] at h2 ⊢
      rw [if_pos hij] at h1 h3
      by_cases hl : i < σ.length
      · rw [if_pos hl] at h3
        cases h3
        exact un l u' hil h2
      · rw [if_neg hl] at h3; cases h3
    · rw [if_neg hij] at h1 h3
      by_cases hil : i = l
      · rw [if_pos hil] at h2 ⊢
        by_cases hl : i < σ.length
        · rw [if_pos hl]
          intro z
          cases z
          exact un j u hij h1 h3
        · rw [if_neg hl]; intro z; cases z
      · rw [if_neg hil] at h2 ⊢
        exact k.ap j l u u' a hjl h1 h2 h3
  rw := fun j v x h => by
    rw [getElem_set_eq] at h ⊢
    by_cases hij : i = j
    · rw [if_pos hij] at h
      by_cases hl : i < ρ.length
      · rw [if_pos hl] at h; cases h
      · rw [if_neg hl] at h; cases h
    · rw [if_neg hij] at h ⊢
      exact k.rw j v x h
  tr := fun j b t h => by
    rw [getElem_set_eq] at h ⊢
    by_cases hij : i = j
    · rw [if_pos hij] at h
      by_cases hl : i < ρ.length
      · rw [if_pos hl] at h; cases h
      · rw [if_neg hl] at h; cases h
    · rw [if_neg hij] at h ⊢
      exact k.tr j b t h
  bB := k.bB
theorem Ok.newOw (k : Ok K G0 H0 G H σ ρ) (hh : Ex H H') (k' : Ok K G0 H0 G' H' σ ρ) {i : Nat} {p : Addr} {ho : HO} {o : OD} (hn : NF H p) (hp : H' p = some ho) (hg : G' p = none) (hx : HoOk K G' ho o) :
    Ok K G0 H0 G' H' (σ.set i (some (.ref p))) (ρ.set i (.ow o)) :=
  k'.setOw hp hg (k.h0.free hn) hx fun j u _ e z => by
    obtain ⟨a, ho', h1, h2, _, _, h5⟩ := k.ow j u e
    rw [h1] at z
    cases z
    exact nf_no h2 (hoOk_ntb h5) hn
theorem ndP_ne {a c : Addr} {xs : List (NestedKey × Addr × V)} {q : Str} : HO.ext (ndP a xs) ≠ LamX.CodeO c q := fun z => by
  unfold LamX.CodeO at z
  have e := HO.ext.inj z
  have size : ∀ k : Nat, ∃ h : Heap, h.objs.size = k ∧ ∀ b, b < k → h.get? b = some ({ cls := .none, data := .fields #[] } : Obj) := fun k => by
    induction k with
    | zero => exact ⟨{}, rfl, fun b h => by omega⟩
    | succ k ih =>
      obtain ⟨h, hk, hd⟩ := ih
      refine ⟨h.push { cls := .none, data := .fields #[] }, by rw [Heap.size_push, hk], fun b hb => ?_⟩
      by_cases hl : b = k
      · rw [hl, ← hk]; exact Heap.get?_push_size _ rfl
      · exact Heap.get?_push_of_some _ (hd b (by omega))
  obtain ⟨h, hk, hd⟩ := size c
  have hp : (h.push { cls := .none, data := .fields #[.none, .str q 0] }).get? c = some { cls := .none, data := .fields #[.none, .str q 0] } := by rw [← hk]; exact Heap.get?_push_size _ rfl
  have := (congrFun e (h.push { cls := .none, data := .fields #[.none, .str q 0] })).mpr ⟨_, _, _, hp, rfl, rfl⟩
  obtain ⟨_, _, o, es, ep, ys, ho, hex, hdt, _⟩ := this
  by_cases hl : a = c
  · rw [hl, hp] at ho
    cases ho
    cases hdt
  · have hs := Heap.lt_size ho
    rw [Heap.size_push, hk] at hs
    rw [Heap.get?_push_of_some _ (hd a (Nat.lt_of_le_of_ne (Nat.le_of_lt_succ hs) hl))] at ho
    cases ho
    cases hdt
theorem setP_ne {a c : Addr} {S : Int → Bool} {n : Nat} {ft : Bool} {q : Str} : HO.ext (setP ft a S n) ≠ LamX.CodeO c q := fun z => by
  unfold LamX.CodeO at z
  have e := HO.ext.inj z
  have size : ∀ k : Nat, ∃ h : Heap, h.objs.size = k ∧ ∀ b, b < k → h.get? b = some ({ cls := .none, data := .fields #[] } : Obj) := fun k => by
    induction k with
    | zero => exact ⟨{}, rfl, fun b h => by omega⟩
    | succ k ih =>
      obtain ⟨h, hk, hd⟩ := ih
      refine ⟨h.push { cls := .none, data := .fields #[] }, by rw [Heap.size_push, hk], fun b hb => ?_⟩
      by_cases hl : b = k
      · rw [hl, ← hk]; exact Heap.get?_push_size _ rfl
      · exact Heap.get?_push_of_some _ (hd b (by omega))
  obtain ⟨h, hk, hd⟩ := size c
  have hp : (h.push { cls := .none, data := .fields #[.none, .str q 0] }).get? c = some { cls := .none, data := .fields #[.none, .str q 0] } := by rw [← hk]; exact Heap.get?_push_size _ rfl
  have := (congrFun e (h.push { cls := .none, data := .fields #[.none, .str q 0] })).mpr ⟨_, _, _, hp, rfl, rfl⟩
  obtain ⟨o, es, ep, t, ho, hex, hdt, _⟩ := this
  by_cases hl : a = c
  · rw [hl, hp] at ho
    cases ho
    cases hdt
  · have hs := Heap.lt_size ho
    rw [Heap.size_push, hk] at hs
    rw [Heap.get?_push_of_some _ (hd a (Nat.lt_of_le_of_ne (Nat.le_of_lt_succ hs) hl))] at ho
    cases ho
    cases hdt
theorem hoOk_nco {K : PySem.W.Frag} {H : Hp} {h : HO} {o : OD} (x : HoOk K H h o) : ∀ c q, h ≠ LamX.CodeO c q := fun c q z => by
  cases h with
  | ext φ =>
    cases o with
    | ndic kvs =>
      obtain ⟨a, xs, rfl, _⟩ := x
      exact ndP_ne z
    | set S n =>
      obtain ⟨a, rfl⟩ := x
      exact setP_ne z
    | _ => exact x.elim
  | _ => cases z
theorem tabs_mutC {H : Hp} {p : Addr} {ho ho' : HO} (t : LamX.Tabs TabC.T H) (h : H p = some ho) (n1 : NTb ho) (n2 : ∀ c q, ho ≠ LamX.CodeO c q) : LamX.Tabs TabC.T (upd H p ho') := fun q hq => by
  obtain ⟨ps, e1, e2, e3⟩ := t q hq
  refine ⟨ps, ?_, e2, fun pos cv hc => ?_⟩
  · rw [upd_ne fun z => ?_]; exact e1
    rw [z, h] at e1
    cases e1
    exact n1 ps rfl
  · obtain ⟨c, e4, e5⟩ := e3 pos cv hc
    refine ⟨c, e4, ?_⟩
    rw [upd_ne fun z => ?_]; exact e5
    rw [z, h] at e5
    exact n2 _ _ (Option.some.inj e5)
theorem tabs_mut {H : Hp} {p : Addr} {ho ho' : HO} (t : LamX.Tabs TabC.T H) (h : H p = some ho) (n1 : NTb ho) (n2 : ∀ f, ho ≠ .ext f) : LamX.Tabs TabC.T (upd H p ho') := fun q hq => by
  obtain ⟨ps, e1, e2, e3⟩ := t q hq
  refine ⟨ps, ?_, e2, fun pos cv hc => ?_⟩
  · rw [upd_ne fun z => ?_]; exact e1
    rw [z, h] at e1
    cases e1
    exact n1 ps rfl
  · obtain ⟨c, e4, e5⟩ := e3 pos cv hc
    refine ⟨c, e4, ?_⟩
    rw [upd_ne fun z => ?_]; exact e5
    rw [z, h] at e5
    exact n2 _ (Option.some.inj e5)
theorem ex_mut {H0 H : Hp} {p : Addr} {xs ys : List V} (e : Ex H0 H) (n : NF H0 p) (h : H p = some (.lst xs)) : Ex H0 (upd H p (.lst ys)) :=
  ⟨by rw [nt_upd ntb_lst]; exact same_mut e.s n, fun t => tabs_mut (e.t t) h ntb_lst fun _ z => by cases z⟩
theorem Ok.mutOw (k : Ok K G0 H0 G H σ ρ) {i : Nat} {p : Addr} {o o' : OD} {ho' : HO} (hi : ρ[i]? = some (Slot.ow o)) (hs : σ[i]? = some (some (V.ref p))) (hx : HoOk K G ho' o') : Ok K G0 H0 G (upd H p ho') σ (ρ.set i (.ow o')) := by
  obtain ⟨a, ho, h1, h2, h3, h4, h5⟩ := k.ow i o hi
  rw [hs] at h1
  cases h1
  have hn := hoOk_ntb hx
  refine ⟨by rw [nt_upd hn]; exact same_mut k.gn h3, k.g0, ⟨by rw [nt_upd hn]; exact same_mut k.h0.s h4, fun _ => tabs_mutC k.tb h2 (hoOk_ntb h5) (hoOk_nco h5)⟩, tabs_mutC k.tb h2 (hoOk_ntb h5) (hoOk_nco h5), k.nw, by rw [List.length_set]; exact k.len, fun j e h => ?_, fun j u h => ?_, fun j l u u' a hjl g1 g2 g3 => ?_, fun j v x h => ?_, fun j b t h => ?_, k.bB⟩
  · rw [getElem_set_eq] at h
    by_cases hij : i = j
    · rw [if_pos hij] at h
      by_cases hl : i < ρ.length
      · rw [if_pos hl] at h; cases h
      · rw [if_neg hl] at h; cases h
    · rw [if_neg hij] at h
      exact k.sh j e h
  · rw [getElem_set_eq] at h
    by_cases hij : i = j
    · rw [if_pos hij] at h
      by_cases hl : i < ρ.length
      · rw [if_pos hl] at h
        cases h
        exact ⟨p, ho', by rw [← hij]; exact hs, upd_same, h3, h4, hx⟩
      · rw [if_neg hl] at h; cases h
    · rw [if_neg hij] at h
      obtain ⟨b, hb, g1, g2, g3, g4, g5⟩ := k.ow j u h
      have ne : b ≠ p := fun z => k.ap i j o u p hij hi h hs (by rw [← z]; exact g1)
      exact ⟨b, hb, g1, by rw [upd_ne ne]; exact g2, g3, g4, g5⟩
  · rw [getElem_set_eq] at g1 g2
    have some_of : ∀ {m : Nat} {w : OD}, (if i = m then (if i < ρ.length then some (Slot.ow o') else none) else ρ[m]?) = some (Slot.ow w) → ∃ w', ρ[m]? = some (Slot.ow w') := fun {m w} h => by
      by_cases him : i = m
      · subst him; exact ⟨o, hi⟩
      · rw [if_neg him] at h; exact ⟨w, h⟩
    obtain ⟨w1, e1⟩ := some_of g1
    obtain ⟨w2, e2⟩ := some_of g2
    exact k.ap j l w1 w2 a hjl e1 e2 g3
  · rw [getElem_set_eq] at h
    by_cases hij : i = j
    · rw [if_pos hij] at h
      by_cases hl : i < ρ.length
      · rw [if_pos hl] at h; cases h
      · rw [if_neg hl] at h; cases h
    · rw [if_neg hij] at h
      exact k.rw j v x h
  · rw [getElem_set_eq] at h
    by_cases hij : i = j
    · rw [if_pos hij] at h
      by_cases hl : i < ρ.length
      · rw [if_pos hl] at h; cases h
      · rw [if_neg hl] at h; cases h
    · rw [if_neg hij] at h
      exact k.tr j b t h
theorem Ok.freezeSlot (k : Ok K G0 H0 G H σ ρ) {i : Nat} {ds : List PyData} (hi : ρ[i]? = some (Slot.ow (.lst ds))) : ∃ G', Same G G' ∧ Ok K G0 H0 G' H σ (ρ.set i (.sh (.list ds))) := by
  obtain ⟨a, ho, h1, h2, h3, h4, h5⟩ := k.ow i _ hi
  cases ho with
  | lst xs =>
    have k1 : Ok K G0 H0 G H (σ.set i (some (.ref a))) (ρ.set i .no) := k.setNo
    have es : σ.set i (some (.ref a)) = σ := by
      apply List.ext_getElem?
      intro j
      rw [getElem_set_eq]
      by_cases hij : i = j
      · subst hij
        rw [if_pos rfl, h1]
        by_cases hl : i < σ.length
        · rw [if_pos hl]
        · rw [List.getElem?_eq_none (Nat.le_of_not_lt hl)] at h1; cases h1
      · rw [if_neg hij]
    rw [es] at k1
    have k2 : Ok K G0 H0 (upd G a (.lst xs)) H σ (ρ.set i .no) := k1.freeze h2 h3 h4 fun j u e => by
      rw [getElem_set_eq] at e
      by_cases hij : i = j
      · rw [if_pos hij] at e
        by_cases hl : i < ρ.length
        · rw [if_pos hl] at e; cases e
        · rw [if_neg hl] at e; cases e
      · rw [if_neg hij] at e
        exact k.ap i j _ u a hij hi e h1
    have hd : Rp K (upd G a (.lst xs)) (.ref a) (.list ds) := .lst upd_same (rpa_mono (same_upd h3) h5)
    have k3 := k2.setSh (i := i) hd
    rw [es, List.set_set] at k3
    exact ⟨_, same_upd h3, k3⟩
  | _ => exact h5.elim
end
theorem Gr.refl {G H : Hp} : Gr G H G H := ⟨Same.refl _, Ex.refl _, fun _ _ e => .inl e⟩
theorem Gr.share {G H : Hp} {p : Addr} {o : HO} (gh : Same G H) (hp : H p = none) (ho : NTb o := by intro _ z; cases z) : Gr G H (upd G p o) (upd H p o) := ⟨same_upd (gh.free hp), ex_upd hp ho, fun a u e => by
  by_cases ha : a = p
  · subst ha; exact .inr (.inl (nf_of hp))
  · rw [upd_ne ha] at e; exact .inl e⟩
theorem Gr.fresh {G H : Hp} {p : Addr} {o : HO} (hp : H p = none) (ho : NTb o := by intro _ z; cases z) : Gr G H G (upd H p o) := ⟨Same.refl _, ex_upd hp ho, fun a u e => .inl e⟩
abbrev DT := Sto → (Bool → Prop) → XD → Prop
abbrev DC := Sto → (Bool → List PyData → Prop) → XD → Prop
abbrev DO := Sto → (OD → Prop) → XD → Prop
abbrev DS := DEnds → Sto → Prop
theorem sq_mono {K : PySem.W.Frag} {b : Bool} {G G' H H' : Hp} {a : Addr} {xs : List V} (g : Same G G') (e : Ex H H') (h : Sq K b G H a xs) : Sq K b G' H' a xs := by
  cases b
  · exact e.at h ntb_lst
  · exact sqN_mono g h
theorem rp_sq {K : PySem.W.Frag} {G H : Hp} {v : V} {b : Bool} {ds : List PyData} (gh : Same G H) (h : Rp K G v (dat b ds)) : ∃ a xs, v = .ref a ∧ Sq K b G H a xs ∧ RpAll K G xs ds := by
  cases b
  · cases h with
    | lst h1 h2 => exact ⟨_, _, rfl, gh _ _ h1, h2⟩
  · cases h with
    | tup h1 h2 => exact ⟨_, _, rfl, h1, h2⟩
section
variable (K : PySem.W.Frag) (W : XW)
def upT (de : DT) : TT := fun σ H Q => ∃ G0 H0 G ρ Qd Xd, Ok K G0 H0 G H σ ρ ∧ de ρ Qd Xd ∧ (∀ G' H' b, Ok K G0 H0 G' H' σ ρ → Gr G H G' H' → Qd b → Q b H') ∧ XOk K W G0 H0 G H σ ρ Xd
def upA (de : DA) : TA := fun σ H Q => ∃ G0 H0 G ρ Qd Xd, Ok K G0 H0 G H σ ρ ∧ de ρ Qd Xd ∧ (∀ G' H' vs ds, Ok K G0 H0 G' H' σ ρ → Gr G H G' H' → RpAll K G' vs ds → Qd ds → Q vs H') ∧ XOk K W G0 H0 G H σ ρ Xd
def upC (de : DC) : TE := fun σ H Q => ∃ G0 H0 G ρ Qd Xd, Ok K G0 H0 G H σ ρ ∧ de ρ Qd Xd ∧ (∀ G' H' a xs b ds, Ok K G0 H0 G' H' σ ρ → Gr G H G' H' → Sq K b G' H' a xs → RpAll K G' xs ds → Qd b ds → Q (.ref a) H') ∧ XOk K W G0 H0 G H σ ρ Xd
def upO (de : DO) : TE := fun σ H Q => ∃ G0 H0 G ρ Qd Xd, Ok K G0 H0 G H σ ρ ∧ de ρ Qd Xd ∧ (∀ G' H' p ho o, Ok K G0 H0 G' H' σ ρ → Gr G H G' H' → NF H p → G' p = none → H' p = some ho → HoOk K G' ho o → Qd o → Q (.ref p) H') ∧ XOk K W G0 H0 G H σ ρ Xd
def upS (ds : DS) : TS := fun D σ H => ∃ G0 H0 G ρ Dd, Ok K G0 H0 G H σ ρ ∧ ds Dd ρ ∧ (∀ G' H' σ' ρ', Ok K G0 H0 G' H' σ' ρ' → Dd.nx ρ' → D.nx σ' H') ∧ (∀ s v H', RetOk K G0 H0 s v H' → Dd.rt s → D.rt v H') ∧
  (∀ G' H' σ' ρ', Ok K G0 H0 G' H' σ' ρ' → Dd.bk ρ' → D.bk σ' H') ∧ (∀ G' H' σ' ρ', Ok K G0 H0 G' H' σ' ρ' → Dd.ct ρ' → D.ct σ' H') ∧
  (∀ G' H' σ' ρ' x cls d, Ok K G0 H0 G' H' σ' ρ' → ExcOk K W.1 G' H' x cls d → Dd.ex x ρ' → W.2 cls d σ' H')
end
def QT (X : Cx) (W : XW) (e : Expr) (dt : DT) : Prop := PT X e (upT X.K W dt)
def QA (X : Cx) (W : XW) (es : List Expr) (da : DA) : Prop := PA X es (upA X.K W da)
def QC (X : Cx) (W : XW) (e : Expr) (dc : DC) : Prop := PE X e (upC X.K W dc)
def QO (X : Cx) (W : XW) (e : Expr) (dd : DO) : Prop := PE X e (upO X.K W dd)
def QS (X : Cx) (W : XW) (st : Stmt) (ds : DS) : Prop := PS X st (upS X.K W ds)
def QSs (X : Cx) (W : XW) (st : List Stmt) (ds : DS) : Prop := PSs X st (upS X.K W ds)
end WH
namespace WH
open PySem PySem.Spec PyProof.Rows L2
section
variable {X : Cx}
theorem laidN {pins : List (Addr × Obj)} {σ : L2.St} {H : Hp} {s : Shared} {its : List Value} {xs : List V} {tk : Nat} (I : Inv X pins σ H s) (r : Vals xs its) (hz : xs.length ≤ sizeLine) :
    Inv X pins σ (upd H s.heap.objs.size (tupN its xs)) { s with heap := s.heap.push (tupO its), toks := tk } :=
  I.laid (o := tupN its xs) (fun b ob q => Heap.get?_push_of_some _ q) (Nat.le_refl _) ⟨Heap.get?_push_size _ rfl, hz, its, r, ⟨tupO its, Heap.get?_push_size _ rfl, rfl, 0, rfl⟩⟩
abbrev NewT (H : Hp) (xs : List V) (Q : VK) : Prop := ∀ (p : Addr) (its : List Value), H p = none → Q (.ref p) (upd H p (tupN its xs))
theorem EP.newT {pins : List (Addr × Obj)} {σ : L2.St} {H : Hp} {s : Shared} {its : List Value} {xs : List V} {Q : VK} {tk : Nat} (I : Inv X pins σ H s) (r : Vals xs its) (hz : xs.length ≤ sizeLine) (q : NewT H xs Q) :
    EP X pins σ Q (.ref s.heap.objs.size) { s with heap := s.heap.push (tupO its), toks := tk } :=
  ⟨.ref s.heap.objs.size, _, laidN I r hz, rfl, q _ its (I.hok.fresh (Nat.le_refl _))⟩
def tTupN (t : TA) : TE := fun σ H Q => t σ H fun xs H1 => xs.length ≤ sizeLine ∧ NewT H1 xs Q
theorem pe_tupN {es : List Expr} {x1 : Nat} {pos : Pos} {t : TA} (h : PA X es t) : PE X (.Tuple es x1 pos) (tTupN t) := by
  refine ⟨fun pins s σ H Q I hq => ?_⟩
  refine wpAny_Tuple_spliced (thn (h.run pos pins s σ H _ I hq) fun vs s2 ⟨ys, H2, I2, rv, hl, w⟩ => ?_)
  exact ⟨by rw [← rv.length]; exact hl, EP.newT I2 rv hl w⟩
def rCatN (K : PySem.W.Frag) : R2 := fun x y H Q => ∃ a b xs ys, x = .ref a ∧ y = .ref b ∧ SqT K H a xs ∧ SqT K H b ys ∧ xs.length + ys.length ≤ sizeLine ∧ (xs = [] → Q (.ref b) H) ∧ (xs ≠ [] → ys = [] → Q (.ref a) H) ∧ (xs ≠ [] → ys ≠ [] → NewT H (xs ++ ys) Q)
theorem op_catN : OpR X (binaryOp .Add) (rCatN X.K) := by
  intro pins s σ H x y v u Q I rx ry h
  obtain ⟨a, b, xs, ys, rfl, rfl, ta, tb, hz, q0, q1, q2⟩ := h
  cases rx
  cases ry
  obtain ⟨us, ru, pu, _⟩ := I.tuple ta
  obtain ⟨ws, rw', pw, _⟩ := I.tuple tb
  by_cases hx : xs = []
  · subst hx
    cases ru
    exact cat_tup0 pu pw ⟨.ref b, H, I, rfl, q0 rfl⟩
  · exact HT.cat_tup pu pw (fun z => hx (ru.nil_iff.mp z)) (fun z => ⟨.ref a, H, I, rfl, q1 hx (rw'.nil_iff.mp z)⟩) (fun z => EP.newT (tk := s.toks) I (ru.append rw') (by rw [List.length_append]; exact hz) (q2 hx fun e => z (rw'.nil_iff.mpr e))) (by rw [← ru.length, ← rw'.length]; exact hz)
def rSlN (K : PySem.W.Frag) : V → Option Int → Option Int → Hp → VK → Prop := fun x lo hi H Q => ∃ a xs, x = .ref a ∧ SqT K H a xs ∧
  (HT.sIx xs.length 0 lo = 0 ∧ HT.sIx xs.length xs.length hi = xs.length → Q (.ref a) H) ∧ (¬ (HT.sIx xs.length 0 lo = 0 ∧ HT.sIx xs.length xs.length hi = xs.length) → NewT H (cutV xs lo hi) Q)
theorem sl_tupN : SlR X (rSlN X.K) := by
  intro pins s σ H x v vl vu lo hi sl Q I rx hs pl pu h
  obtain ⟨a, xs, rfl, tx, q1, q2⟩ := h
  cases rx
  obtain ⟨us, ru, ht, hz⟩ := I.tuple tx
  have hn : us.toArray.size = xs.length := by rw [List.size_toArray, ru.length]
  refine ⟨"tuple", _, slot_tuple_getitem.lookup, ht.typeIs, ?_⟩
  by_cases hw : HT.sIx xs.length 0 lo = 0 ∧ HT.sIx xs.length xs.length hi = xs.length
  · exact getItem_tuple_whole ht hs pl pu (by rw [hn]; exact hw) ⟨.ref a, H, I, rfl, q1 hw⟩
  · refine HT.getItem_tuple_cut ht hs pl pu (by rw [hn]; exact hw) ?_ (by rw [hn]; exact hz)
    rw [hn]
    have rc := (ru.drop (HT.sIx xs.length 0 lo)).take (HT.sIx xs.length xs.length hi - HT.sIx xs.length 0 lo)
    exact EP.newT (tk := s.toks) I rc (Nat.le_trans (cutV_length xs lo hi) hz) (q2 hw)
def rRepN (K : PySem.W.Frag) : R2 := fun x y H Q => ∃ l k xs, x = .ref l ∧ y = .int k ∧ SqT K H l xs ∧ xs ≠ [] ∧ 2 ≤ k ∧ k ≤ 1000 ∧ xs.length ≤ 1000 ∧ NewT H (List.replicate k.toNat xs).flatten Q
theorem op_repN : OpR X (binaryOp .Mult) (rRepN X.K) := by
  intro pins s σ H x y v u Q I rx ry h
  obtain ⟨l, k, xs, rfl, rfl, tx, hne, k2, k1, hz, q⟩ := h
  cases rx
  obtain ⟨t, rfl⟩ := ry
  obtain ⟨us, ru, ⟨⟨c0, d0, e0, sl⟩, ho, hc, n, hd⟩, _⟩ := I.tuple tx
  simp only at hc hd
  subst hc hd
  have hn : us.length = xs.length := ru.length.symm
  have ne : us.toArray.isEmpty = false := by
    cases us with
    | nil => exact absurd (List.eq_nil_of_length_eq_zero hn.symm) hne
    | cons _ _ => rfl
  have sz : us.toArray.size = xs.length := by rw [List.size_toArray, hn]
  have pr : k.toNat * xs.length ≤ 1000000 := Nat.mul_le_mul (show k.toNat ≤ 1000 by omega) hz
  have pri : ((us.toArray.size : Nat) : Int) * k ≤ 1000000 := by
    have z : ((xs.length : Nat) : Int) * k ≤ 1000 * k := Int.mul_le_mul_of_nonneg_right (by omega) (by omega)
    rw [sz]
    omega
  have fl : ∀ {α : Type} (zs : List α), zs.length = xs.length → (List.replicate k.toNat zs).flatten.length ≤ sizeLine := fun zs e => by
    rw [PyProof.Rows.lm_len_rep_flat, e, sizeLine_eq]
    omega
  have w1 : (decide (k < -(2 ^ 63)) || decide (k ≥ 2 ^ 63)) = false := by
    rw [decide_eq_false (show ¬ k < -(2 ^ 63) by omega), decide_eq_false (show ¬ k ≥ 2 ^ 63 by omega)] <;> rfl
  have w2 : (us.toArray.isEmpty || k == 1) = false := by
    rw [ne, Bool.false_or]
    exact beq_eq_false_iff_ne.mpr (show k ≠ 1 by omega)
  have w3 : (decide (k ≤ 0) || us.toArray.isEmpty) = false := by
    rw [ne, Bool.or_false]
    exact decide_eq_false (show ¬ k ≤ 0 by omega)
  have w4 : Builtin.Tuple.tupleTooMany (((us.toArray.size : Nat) : Int) * k) = false := by
    unfold Builtin.Tuple.tupleTooMany
    rw [sizeLine_eq]
    exact decide_eq_false (by omega)
  have last : EP X pins σ Q (.ref s.heap.objs.size) { s with heap := s.heap.push { cls := .type "tuple", data := .seq (List.foldl (fun x1 x2 => x1 ++ x2) #[] (List.replicate k.toNat us.toArray)) } } := by
    rw [size_rep]
    exact EP.newT (tk := s.toks) I (ru.rep k.toNat) (fl xs rfl) q
  have mul := call_meets (prog := X.prog) (w := X.w) (A := X.A) (E := X.xe) F.slot_tuple_mul (show s.TypeIs (.ref l) "tuple" from ⟨_, ho, rfl⟩) F.entry_tuple_mul (F.args_tuple_mul_2 _ _) (tuple_mulW l us.toArray n d0 sl k t w1 w2 w3 (by omega) w4 (by rw [size_rep, List.size_toArray]; exact fl us hn)) ⟨ho, last⟩
  exact wpAny_binaryOp_repeat_ref (U := "int") (T := "tuple") (by decide) ⟨_, ho, rfl⟩ (fun s1 => typeIs_int s1 k t) noFill_tuple_mul F.fills_int_mul F.slot_int_rmul repeat_tuple F.slot_int_index.lookup
    (call_meets F.slot_int_rmul (typeIs_int s k t) F.entry_int_rmul (F.args_int_rmul_2 _ _) (int_rmul_tuple k t l us.toArray n d0 sl) ⟨ho, rfl, ⟨_, ho, rfl⟩, mul⟩)
def rTupN (K : PySem.W.Frag) : List V → Hp → VK → Prop := fun xs H Q => ∃ p ys, xs = [.ref p] ∧ ((SqL K H p ys ∧ NewT H ys Q) ∨ (SqT K H p ys ∧ Q (.ref p) H))
theorem call_tupN : CallR X (.type "tuple") (rTupN X.K) := by
  intro pins s σ H xs us Q I r h
  obtain ⟨p, ys, rfl, h⟩ := h
  obtain ⟨u, rfl, ru⟩ := vals1 r
  cases ru
  rcases h with ⟨sq, q⟩ | ⟨sq, q⟩
  · obtain ⟨its, rv, pl, hz⟩ := I.list sq
    have hl := rv.length
    refine call_tuple_list pl.isList (fun h2 kp => ?_) (by simp only [List.size_toArray] <;> omega)
    have I2 : Inv X pins σ H { s with heap := h2 } := I.kept (t' := s.toks) kp
    exact EP.newT (tk := s.toks) I2 rv hz q
  · obtain ⟨its, _, pl, _⟩ := I.tuple sq
    exact call_tuple_same pl ⟨.ref p, H, I, rfl, q⟩
end
end WH
namespace WH
open PySem PySem.Spec L2
variable [TabC] [ObjB]
theorem XOk.mono {K : PySem.W.Frag} {W : XW} {G0 H0 G H G1 H1 : Hp} {σ : L2.St} {ρ : Sto} {Xd : XD} (h : XOk K W G0 H0 G H σ ρ Xd) (e : Gr G H G1 H1) : XOk K W G0 H0 G1 H1 σ ρ Xd := fun G' H' x cls d k s q z => h G' H' x cls d k (e.trans s) q z
abbrev Fin1 (K : PySem.W.Frag) (G0 H0 G H : Hp) (σ : L2.St) (ρ : Sto) (Qd : PyData → Prop) (Q : VK) : Prop := ∀ G' H' v d, Ok K G0 H0 G' H' σ ρ → Gr G H G' H' → Rp K G' v d → Qd d → Q v H'
abbrev FinO (K : PySem.W.Frag) (G0 H0 G H : Hp) (σ : L2.St) (ρ : Sto) (Qd : OD → Prop) (Q : VK) : Prop := ∀ G' H' p ho o, Ok K G0 H0 G' H' σ ρ → Gr G H G' H' → NF H p → G' p = none → H' p = some ho → HoOk K G' ho o → Qd o → Q (.ref p) H'
def R2E (K : PySem.W.Frag) (r : R2) (f : PyData → PyData → (PyData → Prop) → Prop) : Prop := ∀ G0 H0 G H σ ρ x y d e Qd Q, Ok K G0 H0 G H σ ρ → Rp K G x d → Rp K G y e → f d e Qd → Fin1 K G0 H0 G H σ ρ Qd Q → r x y H Q
def RAE (K : PySem.W.Frag) (r : List V → Hp → VK → Prop) (f : List PyData → (PyData → Prop) → Prop) : Prop := ∀ G0 H0 G H σ ρ xs ds Qd Q, Ok K G0 H0 G H σ ρ → RpAll K G xs ds → f ds Qd → Fin1 K G0 H0 G H σ ρ Qd Q → r xs H Q
def RCE (K : PySem.W.Frag) (r : List V → Hp → VK → Prop) (f : Bool → List PyData → (PyData → Prop) → Prop) : Prop := ∀ G0 H0 G H σ ρ a xs b ds Qd Q, Ok K G0 H0 G H σ ρ → Sq K b G H a xs → RpAll K G xs ds → f b ds Qd → Fin1 K G0 H0 G H σ ρ Qd Q → r [.ref a] H Q
section
variable {X : Cx} {W : XW}
def dVar (i : Nat) : DE := fun ρ Q _ => ∃ d, ρ[i]? = some (Slot.sh d) ∧ Q d
def dC (d : PyData) : DE := fun _ Q _ => Q d
def dVarC (i : Nat) : DC := fun ρ Q _ => (∃ b ds, ρ[i]? = some (Slot.sh (dat b ds)) ∧ Q b ds) ∨ ∃ ds, ρ[i]? = some (Slot.ow (.lst ds)) ∧ Q false ds
theorem up_var {K : PySem.W.Frag} {i : Nat} (σ : L2.St) (H : Hp) (Q : VK) (h : upE K W (dVar i) σ H Q) : tVar i σ H Q := by
  obtain ⟨G0, H0, G, ρ, Qd, Xd, k, ⟨d, hd, q⟩, f, _⟩ := h
  obtain ⟨v, h1, h2⟩ := k.sh i d hd
  exact ⟨v, h1, f G H v d k Gr.refl h2 q⟩
theorem qe_var (i : Nat) {x : Str} {pos : Pos} (hN : X.N[i]? = some x := by rfl) (hv : Vis X.env.scope x := by first | exact Or.inl rfl | exact Or.inr (Or.inl rfl) | exact Or.inr (Or.inr rfl)) (hd : (x == ("__debug__" : Str)) = false := by decide)
    (hcd : (x == ("__classdict__" : Str)) = false := by decide) : QE X W (.Name x pos) (dVar i) := PE.sub (pe_var hN hv hd hcd) up_var
theorem qc_var (i : Nat) {x : Str} {pos : Pos} (hN : X.N[i]? = some x := by rfl) (hv : Vis X.env.scope x := by first | exact Or.inl rfl | exact Or.inr (Or.inl rfl) | exact Or.inr (Or.inr rfl)) (hd : (x == ("__debug__" : Str)) = false := by decide)
    (hcd : (x == ("__classdict__" : Str)) = false := by decide) : QC X W (.Name x pos) (dVarC i) := PE.sub (pe_var hN hv hd hcd) fun σ H Q h => by
  obtain ⟨G0, H0, G, ρ, Qd, Xd, k, h, f, _⟩ := h
  rcases h with ⟨b, ds, hd, q⟩ | ⟨ds, hd, q⟩
  · obtain ⟨v, h1, h2⟩ := k.sh i _ hd
    obtain ⟨a, xs, rfl, h3, h4⟩ := rp_sq k.gh h2
    exact ⟨_, h1, f G H a xs b ds k Gr.refl h3 h4 q⟩
  · obtain ⟨a, ho, h1, h2, _, _, h5⟩ := k.ow i _ hd
    cases ho with
    | lst xs => exact ⟨_, h1, f G H a xs false ds k Gr.refl h2 h5 q⟩
    | _ => exact h5.elim
theorem up_c {K : PySem.W.Frag} {v : V} {d : PyData} (r : ∀ G, Rp K G v d) (σ : L2.St) (H : Hp) (Q : VK) (h : upE K W (dC d) σ H Q) : tC v σ H Q := by
  obtain ⟨G0, H0, G, ρ, Qd, Xd, k, q, f, _⟩ := h
  exact f G H v d k Gr.refl (r G) q
theorem qe_int {i : Int} {j : Nat} {pos : Pos} : QE X W (.Constant (.int i) j pos) (dC (.int i)) := PE.sub pe_int (up_c fun _ => .int i)
theorem qe_str {x : Str} {j : Nat} {pos : Pos} : QE X W (.Constant (.str x) j pos) (dC (.str x)) := PE.sub pe_str (up_c fun _ => .str x)
theorem qe_bl {b : Bool} {j : Nat} {pos : Pos} : QE X W (.Constant (.bool b) j pos) (dC (.bool b)) := PE.sub pe_bl (up_c fun _ => .bl b)
theorem qe_non {j : Nat} {pos : Pos} : QE X W (.Constant .none j pos) (dC .none) := PE.sub pe_non (up_c fun _ => .non)
theorem qe_globI {x : Str} {i : Int} {t : Tok} {pos : Pos} (hg : Gl X x) (hm : X.mg x = some (.int i t)) (hd : (x == ("__debug__" : Str)) = false := by decide) : QE X W (.Name x pos) (dC (.int i)) := PE.sub (pe_glob (v := .int i) hg hm ⟨_, rfl⟩ hd) (up_c fun _ => .int i)
def d2 (f : PyData → PyData → (PyData → Prop) → Prop) (da db : DE) : DE := fun ρ Q X => da ρ (fun x => db ρ (fun y => f x y Q) X) X
theorem up_2 {K : PySem.W.Frag} {r : R2} {f : PyData → PyData → (PyData → Prop) → Prop} {da db : DE} (hr : R2E K r f) (σ : L2.St) (H : Hp) (Q : VK) (h : upE K W (d2 f da db) σ H Q) : tOp r (upE K W da) (upE K W db) σ H Q := by
  obtain ⟨G0, H0, G, ρ, Qd, Xd, k, h, fn, xo⟩ := h
  refine ⟨G0, H0, G, ρ, _, Xd, k, h, fun G1 H1 x d k1 g1 rx hb => ?_, xo⟩
  refine ⟨G0, H0, G1, ρ, _, Xd, k1, hb, fun G2 H2 y e k2 g2 ry hf => ?_, xo.mono g1⟩
  exact hr G0 H0 G2 H2 σ ρ x y d e Qd Q k2 (rp_mono g2.gg rx) ry hf fun G3 H3 v d' k3 g3 rv q => fn G3 H3 v d' k3 ((g1.trans g2).trans g3) rv q
theorem qe_op {a b : Expr} {op : Operator} {pos : Pos} {r : R2} {f : PyData → PyData → (PyData → Prop) → Prop} {da db : DE} (hr : R2E X.K r f) (ho : OpR X (binaryOp op) r) (ha : QE X W a da) (hb : QE X W b db) : QE X W (.BinOp a op b pos) (d2 f da db) := PE.sub (pe_op ho ha hb) (up_2 hr)
theorem qe_cmp {a b : Expr} {op : CmpOp} {pos : Pos} {r : R2} {f : PyData → PyData → (PyData → Prop) → Prop} {da db : DE} (hr : R2E X.K r f) (ho : OpR X (compareOp op) r) (ha : QE X W a da) (hb : QE X W b db) (hm : behindInMarks op b = false) : QE X W (.Compare a [op] [b] pos) (d2 f da db) := PE.sub (pe_cmpR ho ha hb hm) (up_2 hr)
def asB (d : PyData) (Q : Bool → Prop) : Prop := ∃ b, d = .bool b ∧ Q b
def dTst (de : DE) : DT := fun ρ Q X => de ρ (fun d => asB d Q) X
theorem up_tst {K : PySem.W.Frag} {t : TE} {de : DE} (ht : ∀ σ H Q, upE K W de σ H Q → t σ H Q) (σ : L2.St) (H : Hp) (Q : Bool → Hp → Prop) (h : upT K W (dTst de) σ H Q) : tTest t σ H Q := by
  obtain ⟨G0, H0, G, ρ, Qd, Xd, k, h, fn, xo⟩ := h
  refine ht σ H _ ⟨G0, H0, G, ρ, _, Xd, k, h, fun G1 H1 x d k1 g1 rx hb => ?_, xo⟩
  obtain ⟨b, rfl, q⟩ := hb
  cases rx
  exact ⟨b, rfl, fn G1 H1 b k1 g1 q⟩
theorem qt_cmp {a b : Expr} {op : CmpOp} {pos : Pos} {r : R2} {f : PyData → PyData → (PyData → Prop) → Prop} {da db : DE} (hr : R2E X.K r f) (ho : OpR X (compareOp op) r) (ha : QE X W a da) (hb : QE X W b db) (hm : behindInMarks op b = false) : QT X W (.Compare a [op] [b] pos) (dTst (d2 f da db)) := PT.sub (pt_cmpR ho ha hb hm) (up_tst (up_2 hr))
theorem qt_val {e : Expr} {de : DE} (h : QE X W e de) (he : ∀ whole, isTrue e X.env whole = (do let v ← whole; standAt e.pos; holding [v] (truthy v)) := by intro _; rfl) : QT X W e (dTst de) := PT.sub (pt_val h he) (up_tst fun _ _ _ h => h)
def dChain (f f' : PyData → PyData → (PyData → Prop) → Prop) (da db dc : DE) : DE := fun ρ Q X => da ρ (fun x => db ρ (fun y => f x y fun z => asB z fun k => if k = true then dc ρ (fun u => f' y u Q) X else Q (.bool false)) X) X
theorem up_chain {K : PySem.W.Frag} {r r' : R2} {f f' : PyData → PyData → (PyData → Prop) → Prop} {da db dc : DE} (hr : R2E K r f) (hr' : R2E K r' f') (σ : L2.St) (H : Hp) (Q : VK) (h : upE K W (dChain f f' da db dc) σ H Q) : tChain r r' (upE K W da) (upE K W db) (upE K W dc) σ H Q := by
  obtain ⟨G0, H0, G, ρ, Qd, Xd, k, h, fn, xo⟩ := h
  refine ⟨G0, H0, G, ρ, _, Xd, k, h, fun G1 H1 x d k1 g1 rx hb => ?_, xo⟩
  refine ⟨G0, H0, G1, ρ, _, Xd, k1, hb, fun G2 H2 y e k2 g2 ry hf => ?_, xo.mono g1⟩
  refine hr G0 H0 G2 H2 σ ρ x y d e _ _ k2 (rp_mono g2.gg rx) ry hf fun G3 H3 v d' k3 g3 rv q => ?_
  obtain ⟨c, rfl, q⟩ := q
  cases rv
  refine ⟨c, rfl, ?_⟩
  cases c with
  | true =>
    rw [if_pos rfl] at q ⊢
    refine ⟨G0, H0, G3, ρ, _, Xd, k3, q, fun G4 H4 u e' k4 g4 ru hf' => ?_, (xo.mono g1).mono (g2.trans g3)⟩
    exact hr' G0 H0 G4 H4 σ ρ y u e e' Qd Q k4 (rp_mono (g3.trans g4).gg ry) ru hf' fun G5 H5 v d' k5 g5 rv q => fn G5 H5 v d' k5 ((((g1.trans g2).trans g3).trans g4).trans g5) rv q
  | false =>
    rw [if_neg Bool.false_ne_true] at q ⊢
    exact fn G3 H3 _ _ k3 ((g1.trans g2).trans g3) (.bl false) q
theorem qe_chain {a b c : Expr} {op op' : CmpOp} {pos : Pos} {r r' : R2} {f f' : PyData → PyData → (PyData → Prop) → Prop} {da db dc : DE} (hr : R2E X.K r f) (hr' : R2E X.K r' f') (ho : OpR X (compareOp op) r) (ho' : OpR X (compareOp op') r') (ha : QE X W a da) (hb : QE X W b db) (hc : QE X W c dc)
    (hm : lastMarks [op, op'] [b, c] = false := by with_unfolding_all rfl) : QE X W (.Compare a [op, op'] [b, c] pos) (dChain f f' da db dc) := PE.sub (pe_chain ho ho' ha hb hc hm) (up_chain hr hr')
theorem qt_chain {a b c : Expr} {op op' : CmpOp} {pos : Pos} {r r' : R2} {f f' : PyData → PyData → (PyData → Prop) → Prop} {da db dc : DE} (hr : R2E X.K r f) (hr' : R2E X.K r' f') (ho : OpR X (compareOp op) r) (ho' : OpR X (compareOp op') r') (ha : QE X W a da) (hb : QE X W b db) (hc : QE X W c dc)
    (hm : lastMarks [op, op'] [b, c] = false := by with_unfolding_all rfl) : QT X W (.Compare a [op, op'] [b, c] pos) (dTst (dChain f f' da db dc)) := PT.sub (pt_chain ho ho' ha hb hc hm) (up_tst (up_chain hr hr'))
def QW (X : Cx) (W : XW) (e : Expr) (dt : DT) : Prop := PW X e (upT X.K W dt)
def dOr (d e : DT) : DT := fun ρ Q X => d ρ (fun b => if b = true then Q true else e ρ Q X) X
def dNot (d : DT) : DT := fun ρ Q X => d ρ (fun b => Q (!b)) X
theorem up_or {K : PySem.W.Frag} {d e : DT} (σ : L2.St) (H : Hp) (Q : Bool → Hp → Prop) (h : upT K W (dOr d e) σ H Q) : tOr (upT K W d) (upT K W e) σ H Q := by
  obtain ⟨G0, H0, G, ρ, Qd, Xd, k, h, fn, xo⟩ := h
  refine ⟨G0, H0, G, ρ, _, Xd, k, h, fun G1 H1 b k1 g1 hb => ?_, xo⟩
  cases b with
  | true =>
    rw [if_pos rfl] at hb ⊢
    exact fn G1 H1 _ k1 g1 hb
  | false =>
    rw [if_neg Bool.false_ne_true] at hb ⊢
    exact ⟨G0, H0, G1, ρ, Qd, Xd, k1, hb, fun G2 H2 b k2 g2 q => fn G2 H2 b k2 (g1.trans g2) q, xo.mono g1⟩
theorem up_not {K : PySem.W.Frag} {d : DT} (σ : L2.St) (H : Hp) (Q : Bool → Hp → Prop) (h : upT K W (dNot d) σ H Q) : tNot (upT K W d) σ H Q := by
  obtain ⟨G0, H0, G, ρ, Qd, Xd, k, h, fn, xo⟩ := h
  exact ⟨G0, H0, G, ρ, _, Xd, k, h, fun G1 H1 b k1 g1 hb => fn G1 H1 _ k1 g1 hb, xo⟩
theorem qw_or1 {a : Expr} {pos : Pos} {d : DT} (ha : QT X W a d) : QW X W (.BoolOp .Or [a] pos) d := pw_or1 ha
theorem qw_or {a b : Expr} {rest : List Expr} {pos : Pos} {d e : DT} (ha : QT X W a d) (hb : QW X W (.BoolOp .Or (b :: rest) pos) e) : QW X W (.BoolOp .Or (a :: b :: rest) pos) (dOr d e) := PW.sub (pw_or ha hb) up_or
theorem QW.qt {e : Expr} {d : DT} (h : QW X W e d) : QT X W e d := h.pt
theorem qt_not {a : Expr} {pos : Pos} {d : DT} (ha : QT X W a d) : QT X W (.UnaryOp .Not a pos) (dNot d) := PT.sub (pt_not ha) up_not
def dAndV (d e : DE) : DE := fun ρ Q X => d ρ (fun x => asB x fun b => if b = true then e ρ Q X else Q (.bool false)) X
def dNotV (d : DE) : DE := fun ρ Q X => d ρ (fun x => asB x fun b => Q (.bool (!b))) X
theorem up_andV {K : PySem.W.Frag} {d e : DE} (σ : L2.St) (H : Hp) (Q : VK) (h : upE K W (dAndV d e) σ H Q) : tAndV (upE K W d) (upE K W e) σ H Q := by
  obtain ⟨G0, H0, G, ρ, Qd, Xd, k, h, fn, xo⟩ := h
  refine ⟨G0, H0, G, ρ, _, Xd, k, h, fun G1 H1 x d k1 g1 rx hb => ?_, xo⟩
  obtain ⟨b, rfl, hb⟩ := hb
  cases rx
  refine ⟨b, rfl, ?_⟩
  cases b with
  | true =>
    rw [if_pos rfl] at hb ⊢
    exact ⟨G0, H0, G1, ρ, Qd, Xd, k1, hb, fun G2 H2 v d k2 g2 rv q => fn G2 H2 v d k2 (g1.trans g2) rv q, xo.mono g1⟩
  | false =>
    rw [if_neg Bool.false_ne_true] at hb ⊢
    exact fn G1 H1 _ _ k1 g1 (.bl false) hb
theorem up_notV {K : PySem.W.Frag} {d : DE} (σ : L2.St) (H : Hp) (Q : VK) (h : upE K W (dNotV d) σ H Q) : tNotV (upE K W d) σ H Q := by
  obtain ⟨G0, H0, G, ρ, Qd, Xd, k, h, fn, xo⟩ := h
  refine ⟨G0, H0, G, ρ, _, Xd, k, h, fun G1 H1 x d k1 g1 rx hb => ?_, xo⟩
  obtain ⟨b, rfl, hb⟩ := hb
  cases rx
  exact ⟨b, rfl, fn G1 H1 _ _ k1 g1 (.bl _) hb⟩
def dIf (t : DT) (a b : DE) : DE := fun ρ Q X => t ρ (fun c => if c = true then a ρ Q X else b ρ Q X) X
theorem up_if {K : PySem.W.Frag} {t : DT} {d e : DE} (σ : L2.St) (H : Hp) (Q : VK) (h : upE K W (dIf t d e) σ H Q) : tIf (upT K W t) (upE K W d) (upE K W e) σ H Q := by
  obtain ⟨G0, H0, G, ρ, Qd, Xd, k, h, fn, xo⟩ := h
  refine ⟨G0, H0, G, ρ, _, Xd, k, h, fun G1 H1 b k1 g1 hb => ?_, xo⟩
  cases b with
  | true =>
    rw [if_pos rfl] at hb ⊢
    exact ⟨G0, H0, G1, ρ, Qd, Xd, k1, hb, fun G2 H2 v d k2 g2 rv q => fn G2 H2 v d k2 (g1.trans g2) rv q, xo.mono g1⟩
  | false =>
    rw [if_neg Bool.false_ne_true] at hb ⊢
    exact ⟨G0, H0, G1, ρ, Qd, Xd, k1, hb, fun G2 H2 v d k2 g2 rv q => fn G2 H2 v d k2 (g1.trans g2) rv q, xo.mono g1⟩
theorem qe_if {t a b : Expr} {pos : Pos} {dt : DT} {da db : DE} (ht : QT X W t dt) (ha : QE X W a da) (hb : QE X W b db) : QE X W (.IfExp t a b pos) (dIf dt da db) := PE.sub (pe_ifExp ht ha hb) up_if
def dNil : DA := fun _ Q _ => Q []
def dCons (d : DE) (e : DA) : DA := fun ρ Q X => d ρ (fun x => e ρ (fun xs => Q (x :: xs)) X) X
theorem qa_nil : QA X W [] dNil := PA.sub pa_nil fun σ H Q h => by
  obtain ⟨G0, H0, G, ρ, Qd, Xd, k, h, fn, xo⟩ := h
  exact fn G H [] [] k Gr.refl .nil h
theorem qa_cons {e : Expr} {es : List Expr} {d : DE} {da : DA} (ha : QE X W e d) (hr : QA X W es da) (hs : starEach (e :: es) X.env = (false, eval e X.env) :: starEach es X.env := by rfl) : QA X W (e :: es) (dCons d da) := PA.sub (pa_cons ha hr hs) fun σ H Q h => by
  obtain ⟨G0, H0, G, ρ, Qd, Xd, k, h, fn, xo⟩ := h
  refine ⟨G0, H0, G, ρ, _, Xd, k, h, fun G1 H1 x d k1 g1 rx hb => ?_, xo⟩
  exact ⟨G0, H0, G1, ρ, _, Xd, k1, hb, fun G2 H2 vs ds k2 g2 rv q => fn G2 H2 _ _ k2 (g1.trans g2) (.cons (rp_mono g2.gg rx) rv) q, xo.mono g1⟩
def dTup (da : DA) : DE := fun ρ Q X => da ρ (fun ds => ds.length ≤ 100000 ∧ Q (.tuple ds)) X
def dLst (da : DA) : DO := fun ρ Q X => da ρ (fun ds => ds.length ≤ 100000 ∧ Q (.lst ds)) X
theorem sz_of {n : Nat} (h : n ≤ 100000) : n ≤ sizeLine := Nat.le_trans h (by decide)
theorem sz_lt {n : Nat} (h : n < 100000) : n < sizeLine := Nat.lt_of_lt_of_le h (by decide)
theorem rp_tupNew {K : PySem.W.Frag} {G : Hp} {p : Addr} {its : List Value} {xs : List V} {ds : List PyData} (hg : G p = none) (h : RpAll K G xs ds) : Rp K (upd G p (tupN its xs)) (.ref p) (.tuple ds) := .tup (SqN.new upd_same) (rpa_mono (same_upd hg) h)
theorem rp_tupWk {K : PySem.W.Frag} {G : Hp} {p : Addr} {xs : List V} {ds : List PyData} (hg : G p = none) (h : RpAll K G xs ds) : Rp K (upd G p (.tup xs)) (.ref p) (wk ds) := .tpw (SqT.of upd_same) (rpa_mono (same_upd hg) h)
theorem fin_tup {K : PySem.W.Frag} {G0 H0 G H : Hp} {σ : L2.St} {ρ : Sto} {Qd : PyData → Prop} {Q : VK} {xs : List V} {ds : List PyData} (k : Ok K G0 H0 G H σ ρ) (fn : Fin1 K G0 H0 G H σ ρ Qd Q) (r : RpAll K G xs ds) (q : Qd (.tuple ds)) : NewT H xs Q := fun p its hp =>
  fn _ _ _ _ (k.share hp) (Gr.share k.gh hp) (rp_tupNew (k.gh.free hp) r) q
theorem fin_lst {K : PySem.W.Frag} {G0 H0 G H : Hp} {σ : L2.St} {ρ : Sto} {Qd : PyData → Prop} {Q : VK} {xs : List V} {ds : List PyData} (k : Ok K G0 H0 G H σ ρ) (fn : Fin1 K G0 H0 G H σ ρ Qd Q) (r : RpAll K G xs ds) (q : Qd (.list ds)) : ∀ p, H p = none → Q (.ref p) (upd H p (.lst xs)) := fun p hp =>
  fn _ _ _ _ (k.share hp) (Gr.share k.gh hp) (rp_lstNew (k.gh.free hp) r) q
theorem fin_own {K : PySem.W.Frag} {G0 H0 G H : Hp} {σ : L2.St} {ρ : Sto} {Qd : OD → Prop} {Q : VK} {ho : HO} {o : OD} (k : Ok K G0 H0 G H σ ρ) (fn : FinO K G0 H0 G H σ ρ Qd Q) (r : HoOk K G ho o) (q : Qd o) : ∀ p, H p = none → Q (.ref p) (upd H p ho) := fun p hp =>
  fn _ _ _ _ _ (k.fresh hp (hoOk_ntb r)) (Gr.fresh hp (hoOk_ntb r)) (nf_of hp) (k.gh.free hp) upd_same r q
theorem qe_tup {es : List Expr} {x1 : Nat} {pos : Pos} {da : DA} (h : QA X W es da) : QE X W (.Tuple es x1 pos) (dTup da) := PE.sub (pe_tupN h) fun σ H Q h => by
  obtain ⟨G0, H0, G, ρ, Qd, Xd, k, h, fn, xo⟩ := h
  refine ⟨G0, H0, G, ρ, _, Xd, k, h, fun G1 H1 xs ds k1 g1 rx hb => ?_, xo⟩
  exact ⟨sz_of (by rw [rpa_length rx]; exact hb.1), fin_tup k1 (fun G2 H2 v d k2 g2 rv q => fn G2 H2 v d k2 (g1.trans g2) rv q) rx hb.2⟩
theorem qo_lst {es : List Expr} {pos : Pos} {da : DA} (h : QA X W es da) : QO X W (.List es pos) (dLst da) := PE.sub (pe_lst h) fun σ H Q h => by
  obtain ⟨G0, H0, G, ρ, Qd, Xd, k, h, fn, xo⟩ := h
  refine ⟨G0, H0, G, ρ, _, Xd, k, h, fun G1 H1 xs ds k1 g1 rx hb => ?_, xo⟩
  exact ⟨sz_of (by rw [rpa_length rx]; exact hb.1), fin_own (o := .lst ds) k1 (fun G2 H2 p ho o k2 g2 n1 n2 n3 n4 q => fn G2 H2 p ho o k2 (g1.trans g2) (g1.hh.free n1) n2 n3 n4 q) rx hb.2⟩
def dOfO (dd : DO) : DE := fun ρ Q X => dd ρ (fun o => ∃ ds, o = .lst ds ∧ Q (.list ds)) X
def dCofO (dd : DO) : DC := fun ρ Q X => dd ρ (fun o => ∃ ds, o = .lst ds ∧ Q false ds) X
def dCofE (de : DE) : DC := fun ρ Q X => de ρ (fun d => ∃ b ds, d = dat b ds ∧ Q b ds) X
theorem QO.qe {e : Expr} {dd : DO} (h : QO X W e dd) : QE X W e (dOfO dd) := PE.sub h fun σ H Q h => by
  obtain ⟨G0, H0, G, ρ, Qd, Xd, k, h, fn, xo⟩ := h
  refine ⟨G0, H0, G, ρ, _, Xd, k, h, fun G1 H1 p ho o k1 g1 n1 n2 n3 n4 hb => ?_, xo⟩
  obtain ⟨ds, rfl, q⟩ := hb
  cases ho with
  | lst xs =>
    refine fn (upd G1 p (.lst xs)) H1 (.ref p) (.list ds) (k1.freeze n3 n2 (k.h0.free n1) fun i u e z => ?_) ⟨g1.gg.trans (same_upd n2), g1.hh, fun a u e => by
      by_cases ha : a = p
      · subst ha; exact .inr (.inl n1)
      · rw [upd_ne ha] at e; exact g1.nw a u e⟩ (rp_lstNew n2 n4) q
    obtain ⟨a, ho', z1, z2, _, _, z5⟩ := k.ow i u e
    rw [z1] at z
    cases z
    exact nf_no z2 (hoOk_ntb z5) n1
  | _ => exact n4.elim
theorem QO.qc {e : Expr} {dd : DO} (h : QO X W e dd) : QC X W e (dCofO dd) := PE.sub h fun σ H Q h => by
  obtain ⟨G0, H0, G, ρ, Qd, Xd, k, h, fn, xo⟩ := h
  refine ⟨G0, H0, G, ρ, _, Xd, k, h, fun G1 H1 p ho o k1 g1 n1 n2 n3 n4 hb => ?_, xo⟩
  obtain ⟨ds, rfl, q⟩ := hb
  cases ho with
  | lst xs => exact fn G1 H1 p xs false ds k1 g1 n3 n4 q
  | _ => exact n4.elim
theorem QE.qc {e : Expr} {de : DE} (h : QE X W e de) : QC X W e (dCofE de) := PE.sub h fun σ H Q h => by
  obtain ⟨G0, H0, G, ρ, Qd, Xd, k, h, fn, xo⟩ := h
  refine ⟨G0, H0, G, ρ, _, Xd, k, h, fun G1 H1 v d k1 g1 rv hb => ?_, xo⟩
  obtain ⟨b, ds, rfl, q⟩ := hb
  obtain ⟨a, xs, rfl, s1, s2⟩ := rp_sq k1.gh rv
  exact fn G1 H1 a xs b ds k1 g1 s1 s2 q
theorem atI_rp {K : PySem.W.Frag} {G : Hp} {xs : List V} {ds : List PyData} {i : Int} {d : PyData} (h : RpAll K G xs ds) (e : atI ds i = some d) : ∃ v, atI xs i = some v ∧ Rp K G v d := by
  unfold atI at e ⊢
  rw [rpa_length h]
  cases q : ixN ds.length i with
  | none => rw [q] at e; cases e
  | some j =>
    rw [q] at e
    exact rpa_get h e
def ixD (ds : List PyData) (i : PyData) (Q : PyData → Prop) : Prop := ∃ n d, i = .int n ∧ atI ds n = some d ∧ Q d
def dIx (dc : DC) (di : DE) : DE := fun ρ Q X => dc ρ (fun _ ds => di ρ (fun i => ixD ds i Q) X) X
theorem qe_ix {a b : Expr} {pos : Pos} {dc : DC} {di : DE} (ha : QC X W a dc) (hb : QE X W b di) (hs : PlainIx b := by intro _ _; rfl) : QE X W (.Subscript a b pos) (dIx dc di) := PE.sub (pe_ix ix_seq ha hb hs) fun σ H Q h => by
  obtain ⟨G0, H0, G, ρ, Qd, Xd, k, h, fn, xo⟩ := h
  refine ⟨G0, H0, G, ρ, _, Xd, k, h, fun G1 H1 a xs b ds k1 g1 sq rx hb => ?_, xo⟩
  refine ⟨G0, H0, G1, ρ, _, Xd, k1, hb, fun G2 H2 y e k2 g2 ry hf => ?_, xo.mono g1⟩
  obtain ⟨n, d, rfl, hat, q⟩ := hf
  cases ry
  obtain ⟨v, e1, e2⟩ := atI_rp (rpa_mono g2.gg rx) hat
  have fin := fn G2 H2 v d k2 (g1.trans g2) e2 q
  cases b with
  | false => exact .inl ⟨a, xs, n, v, rfl, rfl, SqL.of (g2.hh.at sq ntb_lst), e1, fin⟩
  | true => exact .inr (.inl ⟨a, xs, n, v, rfl, rfl, sqT_mono k2.gh (sqN_mono g2.gg sq).t, e1, fin⟩)
end
end WH
namespace WH
open PySem PySem.Spec L2
variable [TabC] [ObjB]
def addD : PyData → PyData → (PyData → Prop) → Prop
  | .int i, .int j, Q => Q (.int (i + j))
  | .str a, .str b, Q => a.length + b.length ≤ 100000 ∧ Q (.str (a ++ b))
  | .tuple xs, .tuple ys, Q => xs.length + ys.length ≤ 100000 ∧ Q (.tuple (xs ++ ys))
  | .list xs, .list ys, Q => xs.length + ys.length ≤ 100000 ∧ Q (.list (xs ++ ys))
  | _, _, _ => False
def iI (g : Int → Int → PyData) : PyData → PyData → (PyData → Prop) → Prop
  | .int i, .int j, Q => Q (g i j)
  | _, _, _ => False
def iC (C : Int → Int → Prop) (g : Int → Int → PyData) : PyData → PyData → (PyData → Prop) → Prop
  | .int i, .int j, Q => C i j ∧ Q (g i j)
  | _, _, _ => False
def subD := iI fun i j => .int (i - j)
def modD := iC (fun _ j => 0 < j) fun i j => .int (i % j)
def fdivD := iC (fun _ j => 0 < j ∧ j < 1073741824) fun i j => .int (i / j)
def powD := iC (fun i j => 0 ≤ j ∧ j ≤ 1000000 ∧ i.natAbs < 2 ^ 64) fun i j => .int (i ^ j.toNat)
def mulD : PyData → PyData → (PyData → Prop) → Prop
  | .int i, .int j, Q => ((-(2 ^ 64) < i ∧ i < 2 ^ 64) ∨ (-(2 ^ 64) < j ∧ j < 2 ^ 64)) ∧ Q (.int (i * j))
  | .tuple xs, .int k, Q => xs ≠ [] ∧ 2 ≤ k ∧ k ≤ 1000 ∧ xs.length ≤ 1000 ∧ Q (.tuple (List.replicate k.toNat xs).flatten)
  | .list xs, .int k, Q => 0 ≤ k ∧ k ≤ 1000 ∧ xs.length ≤ 100 ∧ Q (.list (List.replicate k.toNat xs).flatten)
  | _, _, _ => False
def ltD := iI fun i j => .bool (decide (i < j))
def leD := iI fun i j => .bool (decide (i ≤ j))
def gtD := iI fun i j => .bool (decide (j < i))
def geD := iI fun i j => .bool (decide (j ≤ i))
def eqD (d e : PyData) (Q : PyData → Prop) : Prop := SeqAt.shaped d = true ∧ SeqAt.shaped e = true ∧ Q (.bool (PyData.eqv d e))
def neD (d e : PyData) (Q : PyData → Prop) : Prop := SeqAt.shaped d = true ∧ SeqAt.shaped e = true ∧ Q (.bool (!PyData.eqv d e))
def isNo : PyData → Bool
  | .none => true
  | _ => false
def isD (d e : PyData) (Q : PyData → Prop) : Prop := e = .none ∧ Q (.bool (isNo d))
section
variable {K : PySem.W.Frag}
theorem rI_E {g : Int → Int → V} {h : Int → Int → PyData} (gh : ∀ G i j, Rp K G (g i j) (h i j)) : R2E K (rI0 g) (iI h) := by
  intro G0 H0 G H σ ρ x y d e Qd Q k rx ry hf fn
  cases rx <;> cases ry <;> first | exact hf.elim | exact ⟨_, _, rfl, rfl, fn G H _ _ k Gr.refl (gh G _ _) hf⟩
theorem rC_E {C : Int → Int → Prop} {g : Int → Int → V} {h : Int → Int → PyData} (gh : ∀ G i j, Rp K G (g i j) (h i j)) : R2E K (rI C g) (iC C h) := by
  intro G0 H0 G H σ ρ x y d e Qd Q k rx ry hf fn
  cases rx <;> cases ry <;> first | exact hf.elim | exact ⟨_, _, rfl, rfl, hf.1, fn G H _ _ k Gr.refl (gh G _ _) hf.2⟩
theorem sub_E : R2E K (rI0 fun i j => .int (i - j)) subD := rI_E fun _ _ _ => .int _
theorem lt_E : R2E K (rI0 fun i j => .bl (decide (i < j))) ltD := rI_E fun _ _ _ => .bl _
theorem le_E : R2E K (rI0 fun i j => .bl (decide (i ≤ j))) leD := rI_E fun _ _ _ => .bl _
theorem gt_E : R2E K (rI0 fun i j => .bl (decide (j < i))) gtD := rI_E fun _ _ _ => .bl _
theorem ge_E : R2E K (rI0 fun i j => .bl (decide (j ≤ i))) geD := rI_E fun _ _ _ => .bl _
theorem mod_E : R2E K (rI (fun _ j => 0 < j) fun i j => .int (i % j)) modD := rC_E fun _ _ _ => .int _
theorem fdiv_E : R2E K (rI CDiv fun i j => .int (i / j)) fdivD := by
  intro G0 H0 G H σ ρ x y d e Qd Q k rx ry hf fn
  cases rx <;> cases ry <;> first | exact hf.elim | exact ⟨_, _, rfl, rfl, hf.1, fn G H _ _ k Gr.refl (.int _) hf.2⟩
theorem pow_E : R2E K (rI CPow fun i j => .int (i ^ j.toNat)) powD := by
  intro G0 H0 G H σ ρ x y d e Qd Q k rx ry hf fn
  cases rx <;> cases ry <;> first | exact hf.elim | exact ⟨_, _, rfl, rfl, hf.1, fn G H _ _ k Gr.refl (.int _) hf.2⟩
def rAddA (K : PySem.W.Frag) : R2 := fun x y H Q => rI0 (fun i j => .int (i + j)) x y H Q ∨ (∃ i j, x = .str i ∧ y = .str j ∧ i.length + j.length ≤ sizeLine ∧ Q (.str (i ++ j)) H) ∨ rCatN K x y H Q ∨ rCat x y H Q
theorem op_addA {X : Cx} : OpR X (binaryOp .Add) (rAddA X.K) := op_add.or (op_add_str.or (op_catN.or op_cat))
theorem add_E : R2E K (rAddA K) addD := by
  intro G0 H0 G H σ ρ x y d e Qd Q k rx ry hf fn
  cases rx with
  | int i =>
    cases ry with
    | int j => exact .inl ⟨i, j, rfl, rfl, fn G H _ _ k Gr.refl (.int _) hf⟩
    | _ => exact hf.elim
  | str i =>
    cases ry with
    | str j => exact .inr (.inl ⟨i, j, rfl, rfl, sz_of hf.1, fn G H _ _ k Gr.refl (.str _) hf.2⟩)
    | _ => exact hf.elim
  | tup sx ax =>
    cases ry with
    | tup sy ay =>
      rename_i a xs ds b ys es
      have hl := rpa_length ax
      have hl2 := rpa_length ay
      refine .inr (.inr (.inl ⟨a, b, xs, ys, rfl, rfl, sqT_mono k.gh sx.t, sqT_mono k.gh sy.t, sz_of (by rw [hl, hl2]; exact hf.1), fun e0 => ?_, fun n0 e0 => ?_, fun n0 n1 => ?_⟩))
      · subst e0
        cases ax
        exact fn G H _ _ k Gr.refl (.tup sy ay) hf.2
      · subst e0
        cases ay
        have q := hf.2
        rw [List.append_nil] at q
        exact fn G H _ _ k Gr.refl (.tup sx ax) q
      · exact fin_tup k fn (rpa_append ax ay) hf.2
    | _ => exact hf.elim
  | lst sx ax =>
    cases ry with
    | lst sy ay =>
      rename_i a xs ds b ys es
      have hl := rpa_length ax
      have hl2 := rpa_length ay
      exact .inr (.inr (.inr ⟨a, b, xs, ys, rfl, rfl, k.gh _ _ sx, k.gh _ _ sy, sz_of (by rw [hl, hl2]; exact hf.1), fin_lst k fn (rpa_append ax ay) hf.2⟩))
    | _ => exact hf.elim
  | _ => cases ry <;> exact hf.elim
def rMulA (K : PySem.W.Frag) : R2 := fun x y H Q => rI CMul (fun i j => .int (i * j)) x y H Q ∨ rRepN K x y H Q ∨ rRep x y H Q
theorem op_mulA {X : Cx} : OpR X (binaryOp .Mult) (rMulA X.K) := op_mul.or (op_repN.or op_rep)
theorem mul_E : R2E K (rMulA K) mulD := by
  intro G0 H0 G H σ ρ x y d e Qd Q k rx ry hf fn
  cases rx with
  | int i =>
    cases ry with
    | int j => exact .inl ⟨i, j, rfl, rfl, hf.1, fn G H _ _ k Gr.refl (.int _) hf.2⟩
    | _ => exact hf.elim
  | tup sx ax =>
    cases ry with
    | int j =>
      rename_i a xs ds
      have hl := rpa_length ax
      obtain ⟨f1, f2, f3, f4, f5⟩ := hf
      refine .inr (.inl ⟨a, j, xs, rfl, rfl, sqT_mono k.gh sx.t, fun z => f1 ?_, f2, f3, by omega, fin_tup k fn (rpa_rep ax _) f5⟩)
      subst z
      cases ax
      rfl
    | _ => exact hf.elim
  | lst sx ax =>
    cases ry with
    | int j =>
      rename_i a xs ds
      have hl := rpa_length ax
      obtain ⟨f1, f2, f3, f4⟩ := hf
      refine .inr (.inr ⟨a, j, xs, rfl, rfl, k.gh _ _ sx, by omega, by omega, sz_of ?_, fin_lst k fn (rpa_rep ax _) f4⟩)
      have : xs.length * j.toNat ≤ 100 * 1000 := Nat.mul_le_mul (by omega) (by omega)
      omega
    | _ => exact hf.elim
  | _ => cases ry <;> exact hf.elim
theorem shaped_lay {d : PyData} (h : SeqAt.shaped d = true) : d.canLay0 = true := SeqAt.canLay_of_shaped h
theorem rp_dpH {G H : Hp} {v : V} {d : PyData} (r : Rp K G v d) (e : Same G H) (h : SeqAt.shaped d = true) : Dp K H v d := rp_dp (rp_mono e r) (shaped_lay h)
theorem eq_E : R2E K (rEqD K) eqD := by
  intro G0 H0 G H σ ρ x y d e Qd Q k rx ry hf fn
  exact ⟨d, e, rp_dpH rx k.gh hf.1, rp_dpH ry k.gh hf.2.1, hf.1, hf.2.1, fn G H _ _ k Gr.refl (.bl _) hf.2.2⟩
theorem ne_E : R2E K (rNeD K) neD := by
  intro G0 H0 G H σ ρ x y d e Qd Q k rx ry hf fn
  exact ⟨d, e, rp_dpH rx k.gh hf.1, rp_dpH ry k.gh hf.2.1, hf.1, hf.2.1, fn G H _ _ k Gr.refl (.bl _) hf.2.2⟩
theorem isNo_eq {G : Hp} {v : V} {d : PyData} (r : Rp K G v d) : decide (v = .non) = isNo d := by cases r <;> rfl
theorem is_E : R2E K (fun x y H Q => y = .non ∧ Q (.bl (decide (x = .non))) H) isD := by
  intro G0 H0 G H σ ρ x y d e Qd Q k rx ry hf fn
  obtain ⟨rfl, q⟩ := hf
  cases ry
  exact ⟨rfl, fn G H _ _ k Gr.refl (.bl _) (by rw [isNo_eq rx]; exact q)⟩
end
section
variable {X : Cx} {W : XW} {a b : Expr} {pos : Pos} {da db : DE}
theorem qe_add (ha : QE X W a da) (hb : QE X W b db) : QE X W (.BinOp a .Add b pos) (d2 addD da db) := qe_op add_E op_addA ha hb
theorem qe_sub (ha : QE X W a da) (hb : QE X W b db) : QE X W (.BinOp a .Sub b pos) (d2 subD da db) := qe_op sub_E op_sub ha hb
theorem qe_mul (ha : QE X W a da) (hb : QE X W b db) : QE X W (.BinOp a .Mult b pos) (d2 mulD da db) := qe_op mul_E op_mulA ha hb
theorem qe_mod (ha : QE X W a da) (hb : QE X W b db) : QE X W (.BinOp a .Mod b pos) (d2 modD da db) := qe_op mod_E op_mod ha hb
theorem qe_fdiv (ha : QE X W a da) (hb : QE X W b db) : QE X W (.BinOp a .FloorDiv b pos) (d2 fdivD da db) := qe_op fdiv_E op_fdiv ha hb
theorem qe_pow (ha : QE X W a da) (hb : QE X W b db) : QE X W (.BinOp a .Pow b pos) (d2 powD da db) := qe_op pow_E op_pow ha hb
theorem qe_eq (hu : X.A.units + 64 < cLine) (ha : QE X W a da) (hb : QE X W b db) : QE X W (.Compare a [.Eq] [b] pos) (d2 eqD da db) := qe_cmp eq_E (op_eqD hu) ha hb (nomark _)
theorem qe_is (ha : QE X W a da) (hb : QE X W b db) : QE X W (.Compare a [.Is] [b] pos) (d2 isD da db) := qe_cmp is_E op_isN ha hb (nomark _)
theorem qt_lt (ha : QE X W a da) (hb : QE X W b db) : QT X W (.Compare a [.Lt] [b] pos) (dTst (d2 ltD da db)) := qt_cmp lt_E op_lt ha hb (nomark _)
theorem qt_gt (ha : QE X W a da) (hb : QE X W b db) : QT X W (.Compare a [.Gt] [b] pos) (dTst (d2 gtD da db)) := qt_cmp gt_E op_gt ha hb (nomark _)
theorem qt_ge (ha : QE X W a da) (hb : QE X W b db) : QT X W (.Compare a [.GtE] [b] pos) (dTst (d2 geD da db)) := qt_cmp ge_E op_ge ha hb (nomark _)
theorem qt_eq (hu : X.A.units + 64 < cLine) (ha : QE X W a da) (hb : QE X W b db) : QT X W (.Compare a [.Eq] [b] pos) (dTst (d2 eqD da db)) := qt_cmp eq_E (op_eqD hu) ha hb (nomark _)
theorem qt_ne (hu : X.A.units + 64 < cLine) (ha : QE X W a da) (hb : QE X W b db) : QT X W (.Compare a [.NotEq] [b] pos) (dTst (d2 neD da db)) := qt_cmp ne_E (op_neD hu) ha hb (nomark _)
theorem qt_is (ha : QE X W a da) (hb : QE X W b db) : QT X W (.Compare a [.Is] [b] pos) (dTst (d2 isD da db)) := qt_cmp is_E op_isN ha hb (nomark _)
theorem qe_and {rest : List Expr} (ha : QE X W a da) (hb : QE X W (.BoolOp .And (b :: rest) pos) db) : QE X W (.BoolOp .And (a :: b :: rest) pos) (dAndV da db) := PE.sub (pe_and ha hb) up_andV
theorem qe_one {op : BoolOp} (ha : QE X W a da) : QE X W (.BoolOp op [a] pos) da := pe_one ha
theorem qe_not (ha : QE X W a da) : QE X W (.UnaryOp .Not a pos) (dNotV da) := PE.sub (pe_not ha) up_notV
def dNeg (da : DE) : DE := fun ρ Q X => da ρ (fun d => ∃ i, d = .int i ∧ Q (.int (-i))) X
theorem qe_neg (ha : QE X W a da) : QE X W (.UnaryOp .USub a pos) (dNeg da) := PE.sub (pe_un un_neg ha) fun σ H Q h => by
  obtain ⟨G0, H0, G, ρ, Qd, Xd, k, h, fn, xo⟩ := h
  refine ⟨G0, H0, G, ρ, _, Xd, k, h, fun G1 H1 x d k1 g1 rx hb => ?_, xo⟩
  obtain ⟨i, rfl, q⟩ := hb
  cases rx
  exact ⟨i, rfl, fn G1 H1 _ _ k1 g1 (.int _) q⟩
def flatD : PyData → Bool
  | .none => true
  | .bool _ => true
  | .int _ => true
  | .str _ => true
  | _ => false
def inD (x : PyData) (ds : List PyData) : Bool := ds.any fun y => PyData.eqv y x
theorem eqV_eqv {K : PySem.W.Frag} {G : Hp} {u v : V} {d e : PyData} (r : Rp K G u d) (r' : Rp K G v e) (fd : flatD d = true) (fe : flatD e = true) : eqV u v = PyData.eqv d e := by
  cases r <;> cases r' <;> first | rfl | (simp [flatD] at fd; done) | (simp [flatD] at fe; done) | (simp [eqV, PyData.eqv]; done)
theorem flat_rp {K : PySem.W.Frag} {G : Hp} {u : V} {d : PyData} (r : Rp K G u d) (fd : flatD d = true) : flatV u = true := by
  cases r <;> first | rfl | (simp [flatD] at fd; done)
theorem flat_rpa {K : PySem.W.Frag} {G : Hp} : ∀ {us : List V} {ds : List PyData}, RpAll K G us ds → ds.all flatD = true → us.all flatV = true
  | _, _, .nil, _ => rfl
  | _, _, .cons r t, h => by
    rw [List.all_cons, Bool.and_eq_true] at h ⊢
    exact ⟨flat_rp r h.1, flat_rpa t h.2⟩
theorem inV_inD {K : PySem.W.Frag} {G : Hp} {u : V} {d : PyData} (r : Rp K G u d) (fd : flatD d = true) : ∀ {us : List V} {ds : List PyData}, RpAll K G us ds → ds.all flatD = true → inV u us = inD d ds
  | _, _, .nil, _ => rfl
  | _, _, .cons r' t, h => by
    rw [List.all_cons, Bool.and_eq_true] at h
    have ih := inV_inD r fd t h.2
    unfold inV inD at ih ⊢
    rw [List.any_cons, List.any_cons, ih, eqV_eqv r' r h.1 fd]
def dIn (neg : Bool) (da : DE) (dc : DC) : DE := fun ρ Q X => da ρ (fun x => dc ρ (fun _ ds => flatD x = true ∧ ds.all flatD = true ∧ Q (.bool (if neg then !inD x ds else inD x ds))) X) X
theorem up_in {K : PySem.W.Frag} {neg : Bool} {dc : DC} (σ : L2.St) (H : Hp) (Q : VK) (h : upE K W (dIn neg da dc) σ H Q) : tOp (rIn K neg) (upE K W da) (upC K W dc) σ H Q := by
  obtain ⟨G0, H0, G, ρ, Qd, Xd, k, h, fn, xo⟩ := h
  refine ⟨G0, H0, G, ρ, _, Xd, k, h, fun G1 H1 x d k1 g1 rx hb => ?_, xo⟩
  refine ⟨G0, H0, G1, ρ, _, Xd, k1, hb, fun G2 H2 a xs b ds k2 g2 sq ry hf => ?_, xo.mono g1⟩
  have rx2 := rp_mono g2.gg rx
  refine ⟨a, xs, rfl, ?_, flat_rp rx2 hf.1, flat_rpa ry hf.2.1, ?_⟩
  · exact sq.any k2.gh
  · rw [inV_inD rx2 hf.1 ry hf.2.1]
    exact fn G2 H2 _ _ k2 (g1.trans g2) (.bl _) hf.2.2
theorem qt_notIn {dc : DC} (ha : QE X W a da) (hb : QC X W b dc) (hm : behindInMarks .NotIn b = false := by with_unfolding_all rfl) : QT X W (.Compare a [.NotIn] [b] pos) (dTst (dIn true da dc)) := PT.sub (pt_cmpR op_notIn_seq ha hb hm) (up_tst up_in)
abbrev DP := Sto → (Option Int → Prop) → XD → Prop
def upP (K : PySem.W.Frag) (W : XW) (dp : DP) : TO := fun σ H Q => ∃ G0 H0 G ρ Qd Xd, Ok K G0 H0 G H σ ρ ∧ dp ρ Qd Xd ∧ (∀ G' H' o, Ok K G0 H0 G' H' σ ρ → Gr G H G' H' → Qd o → Q o H') ∧ XOk K W G0 H0 G H σ ρ Xd
def QP (X : Cx) (W : XW) (e : Option Expr) (dp : DP) : Prop := PO X e (upP X.K W dp)
def dNo : DP := fun _ Q _ => Q none
def dSome (da : DE) : DP := fun ρ Q X => da ρ (fun d => ∃ i, d = .int i ∧ Q (some i)) X
theorem qp_none : QP X W none dNo := PO.sub po_none fun σ H Q h => by
  obtain ⟨G0, H0, G, ρ, Qd, Xd, k, h, fn, xo⟩ := h
  exact fn G H _ k Gr.refl h
theorem qp_some (ha : QE X W a da) : QP X W (some a) (dSome da) := PO.sub (po_some ha) fun σ H Q h => by
  obtain ⟨G0, H0, G, ρ, Qd, Xd, k, h, fn, xo⟩ := h
  refine ⟨G0, H0, G, ρ, _, Xd, k, h, fun G1 H1 x d k1 g1 rx hb => ?_, xo⟩
  obtain ⟨i, rfl, q⟩ := hb
  cases rx
  exact ⟨i, rfl, fn G1 H1 _ k1 g1 q⟩
def cutD (ds : List PyData) (lo hi : Option Int) : List PyData := (ds.drop (HT.sIx ds.length 0 lo)).take (HT.sIx ds.length ds.length hi - HT.sIx ds.length 0 lo)
theorem rpa_cut {K : PySem.W.Frag} {G : Hp} {xs : List V} {ds : List PyData} {lo hi : Option Int} (h : RpAll K G xs ds) : RpAll K G (cutV xs lo hi) (cutD ds lo hi) := by
  unfold cutV cutD
  rw [rpa_length h]
  exact rpa_take _ (rpa_drop _ h)
def dSl (dc : DC) (lo hi : DP) : DE := fun ρ Q X => dc ρ (fun b ds => lo ρ (fun l => hi ρ (fun h => Q (dat b (cutD ds l h))) X) X) X
theorem cutD_all {ds : List PyData} {lo hi : Option Int} (h : HT.sIx ds.length 0 lo = 0 ∧ HT.sIx ds.length ds.length hi = ds.length) : cutD ds lo hi = ds := by
  unfold cutD
  rw [h.1, h.2, List.drop_zero, Nat.sub_zero, List.take_length]
theorem qe_slice {lo hi : Option Expr} {p2 : Pos} {dc : DC} {dl dh : DP} (ha : QC X W a dc) (hl : QP X W lo dl) (hh : QP X W hi dh) : QE X W (.Subscript a (.Slice lo hi none p2) pos) (dSl dc dl dh) :=
  PE.sub (pe_slice (sl_list.or sl_tupN) ha hl hh) fun σ H Q h => by
  obtain ⟨G0, H0, G, ρ, Qd, Xd, k, h, fn, xo⟩ := h
  refine ⟨G0, H0, G, ρ, _, Xd, k, h, fun G1 H1 a xs b ds k1 g1 sq rx hb => ?_, xo⟩
  refine ⟨G0, H0, G1, ρ, _, Xd, k1, hb, fun G2 H2 l k2 g2 hb2 => ?_, xo.mono g1⟩
  refine ⟨G0, H0, G2, ρ, _, Xd, k2, hb2, fun G3 H3 u k3 g3 q => ?_, (xo.mono g1).mono g2⟩
  have fin : Fin1 X.K G0 H0 G3 H3 σ ρ Qd Q := fun G4 H4 v d k4 g4 rv q => fn G4 H4 v d k4 (((g1.trans g2).trans g3).trans g4) rv q
  have rx3 := rpa_mono (g2.trans g3).gg rx
  have sq3 := sq_mono (g2.trans g3).gg (g2.trans g3).hh sq
  cases b with
  | false => exact .inl ⟨a, xs, rfl, SqL.of sq3, fin_lst k3 fin (rpa_cut rx3) q⟩
  | true =>
    refine .inr ⟨a, xs, rfl, sqT_mono k3.gh (SqN.t sq3), fun hw => ?_, fun _ => fin_tup k3 fin (rpa_cut rx3) q⟩
    rw [rpa_length rx3] at hw
    have e := cutD_all (ds := ds) (lo := l) (hi := u) hw
    rw [e] at q
    exact fin G3 H3 _ _ k3 Gr.refl (.tup sq3 rx3) q
end
end WH
namespace WH
open PySem PySem.Spec L2
variable [TabC] [ObjB]
section
variable {X : Cx} {W : XW}
def dNext : DS := fun D ρ => D.nx ρ
def dSeq (d e : DS) : DS := fun D ρ => d { D with nx := e D } ρ
theorem qss_nil : QSs X W [] dNext := PSs.sub pss_nil fun D σ H h => by
  obtain ⟨G0, H0, G, ρ, Dd, k, h, nx, rt, bk, ct, ex⟩ := h
  exact nx G H σ ρ k h
theorem qss_cons {st : Stmt} {rest : List Stmt} {d e : DS} (h1 : QS X W st d) (h2 : QSs X W rest e) : QSs X W (st :: rest) (dSeq d e) := PSs.sub (pss_cons h1 h2) fun D σ H h => by
  obtain ⟨G0, H0, G, ρ, Dd, k, h, nx, rt, bk, ct, ex⟩ := h
  exact ⟨G0, H0, G, ρ, { Dd with nx := e Dd }, k, h, fun G' H' σ' ρ' k' q => ⟨G0, H0, G', ρ', Dd, k', q, nx, rt, bk, ct, ex⟩, rt, bk, ct, ex⟩
theorem qss_one {st : Stmt} {d : DS} (h1 : QS X W st d) : QSs X W [st] d := pss_one h1
def dAsg (i : Nat) (de : DE) : DS := fun D ρ => de ρ (fun d => D.nx (ρ.set i (.sh d))) (D.xd ρ)
def dAsgO (i : Nat) (dd : DO) : DS := fun D ρ => dd ρ (fun o => D.nx (ρ.set i (.ow o))) (D.xd ρ)
theorem xok_of {K : PySem.W.Frag} {G0 H0 G H : Hp} {σ : L2.St} {ρ : Sto} {Xd : Exn → Sto → Prop} (ex : ∀ G' H' σ' ρ' x cls d, Ok K G0 H0 G' H' σ' ρ' → ExcOk K W.1 G' H' x cls d → Xd x ρ' → W.2 cls d σ' H') : XOk K W G0 H0 G H σ ρ (fun x => Xd x ρ) := fun G' H' x cls d k _ e z => ex G' H' σ ρ x cls d k e z
theorem up_asg {K : PySem.W.Frag} {t : TE} {i : Nat} {de : DE} (ht : ∀ σ H Q, upE K W de σ H Q → t σ H Q) (D : Ends) (σ : L2.St) (H : Hp) (h : upS K W (dAsg i de) D σ H) : tAsg t (gName i) D σ H := by
  obtain ⟨G0, H0, G, ρ, Dd, k, h, nx, rt, bk, ct, ex⟩ := h
  exact ht σ H _ ⟨G0, H0, G, ρ, _, Dd.xd ρ, k, h, fun G1 H1 v d k1 g1 rv q => nx G1 H1 _ _ (k1.setSh rv) q, xok_of ex⟩
theorem up_asgO {K : PySem.W.Frag} {t : TE} {i : Nat} {dd : DO} (ht : ∀ σ H Q, upO K W dd σ H Q → t σ H Q) (D : Ends) (σ : L2.St) (H : Hp) (h : upS K W (dAsgO i dd) D σ H) : tAsg t (gName i) D σ H := by
  obtain ⟨G0, H0, G, ρ, Dd, k, h, nx, rt, bk, ct, ex⟩ := h
  exact ht σ H _ ⟨G0, H0, G, ρ, _, Dd.xd ρ, k, h, fun G1 H1 p ho o k1 g1 n1 n2 n3 n4 q => nx G1 H1 _ _ (k.newOw g1.hh k1 n1 n3 n2 n4) q, xok_of ex⟩
theorem qs_set {i : Nat} {x : Str} {e : Expr} {de : DE} {pos pos' : Pos} (hN : X.N.Nodup) (he : QE X W e de) (hi : X.N[i]? = some x := by rfl) (hx : Loc X.env.scope x := by first | exact Or.inl rfl | exact Or.inr rfl) (hs : swapsWith e (some (.Name x pos')) pos.line X.env = pure false := by rfl) (hf : X.fn x = true ∨ X.env.scope.names.lookup x = some .local := by first | exact .inl rfl | exact .inr rfl | assumption) :
    QS X W (.Assign [.Name x pos'] e pos) (dAsg i de) := PS.sub (ps_set hN hi hx he hs hf) (up_asg fun _ _ _ h => h)
theorem qs_setO {i : Nat} {x : Str} {e : Expr} {de : DO} {pos pos' : Pos} (hN : X.N.Nodup) (he : QO X W e de) (hi : X.N[i]? = some x := by rfl) (hx : Loc X.env.scope x := by first | exact Or.inl rfl | exact Or.inr rfl) (hs : swapsWith e (some (.Name x pos')) pos.line X.env = pure false := by rfl) (hf : X.fn x = true ∨ X.env.scope.names.lookup x = some .local := by first | exact .inl rfl | exact .inr rfl | assumption) :
    QS X W (.Assign [.Name x pos'] e pos) (dAsgO i de) := PS.sub (ps_set hN hi hx he hs hf) (up_asgO fun _ _ _ h => h)
abbrev DG := PyData → Sto → (Sto → Prop) → Prop
def upG (K : PySem.W.Frag) (vs : List Nat) (dg : DG) : TG := fun v σ H Q => ∃ G0 H0 G ρ d Qd, Ok K G0 H0 G H σ ρ ∧ Rp K G v d ∧ dg d ρ Qd ∧ ∀ σ' ρ', Ok K G0 H0 G H σ' ρ' → σ'.length = σ.length → (∀ i, i ∉ vs → σ'[i]? = σ[i]?) → Qd ρ' → Q σ' H
def QG (X : Cx) (vs : List Nat) (tg : Expr) (dg : DG) : Prop := PG X tg (upG X.K vs dg)
def gN (i : Nat) : DG := fun d ρ Q => Q (ρ.set i (.sh d))
theorem qg_name {i : Nat} {x : Str} {pos : Pos} (hN : X.N.Nodup) (hi : X.N[i]? = some x := by rfl) (hx : Loc X.env.scope x := by first | exact Or.inl rfl | exact Or.inr rfl) (hf : X.fn x = true ∨ X.env.scope.names.lookup x = some .local := by first | exact .inl rfl | exact .inr rfl | assumption) : QG X [i] (.Name x pos) (gN i) :=
  PG.sub (pg_name hN hi hx hf) fun v σ H Q h => by
  obtain ⟨G0, H0, G, ρ, d, Qd, k, rv, h, fn⟩ := h
  refine fn _ _ (k.setSh rv) (List.length_set) (fun j hj => ?_) h
  rw [getElem_set_eq, if_neg (fun z => hj (by rw [z]; exact List.mem_singleton.mpr rfl))]
abbrev DGs := List PyData → Sto → (Sto → Prop) → Prop
def upGs (K : PySem.W.Frag) (vs : List Nat) (dg : DGs) : TGs := fun us σ H Q => ∃ G0 H0 G ρ ds Qd, Ok K G0 H0 G H σ ρ ∧ RpAll K G us ds ∧ dg ds ρ Qd ∧ ∀ σ' ρ', Ok K G0 H0 G H σ' ρ' → σ'.length = σ.length → (∀ i, i ∉ vs → σ'[i]? = σ[i]?) → Qd ρ' → Q σ' H
def QGs (X : Cx) (vs : List Nat) (tg : List Expr) (dg : DGs) : Prop := PGs X tg (upGs X.K vs dg)
def gsNil : DGs := fun ds ρ Q => ds = [] ∧ Q ρ
def gsCons (g : DG) (gs : DGs) : DGs := fun ds ρ Q => ∃ d r, ds = d :: r ∧ g d ρ (fun ρ' => gs r ρ' Q)
theorem qgs_nil : QGs X [] [] gsNil := PGs.sub pgs_nil fun us σ H Q h => by
  obtain ⟨G0, H0, G, ρ, ds, Qd, k, rv, ⟨rfl, h⟩, fn⟩ := h
  cases rv
  exact ⟨rfl, fn _ _ k rfl (fun _ _ => rfl) h⟩
theorem qgs_cons {e : Expr} {es : List Expr} {vs ws : List Nat} {g : DG} {gs : DGs} (h1 : QG X vs e g) (h2 : QGs X ws es gs) (hs : (assignEach (e :: es) X.env).map (·.2) = assign e X.env :: (assignEach es X.env).map (·.2) := by rfl) : QGs X (vs ++ ws) (e :: es) (gsCons g gs) :=
  PGs.sub (pgs_cons h1 h2 hs) fun us σ H Q h => by
  obtain ⟨G0, H0, G, ρ, ds, Qd, k, rv, ⟨d, r, rfl, h⟩, fn⟩ := h
  cases rv with
  | cons r1 r2 =>
    refine ⟨_, _, rfl, G0, H0, G, ρ, d, _, k, r1, h, fun σ1 ρ1 k1 l1 e1 h1 => ?_⟩
    exact ⟨G0, H0, G, ρ1, r, Qd, k1, r2, h1, fun σ2 ρ2 k2 l2 e2 q => fn σ2 ρ2 k2 (l2.trans l1) (fun i hi => (e2 i fun z => hi (List.mem_append_right _ z)).trans (e1 i fun z => hi (List.mem_append_left _ z))) q⟩
def gT (n : Nat) (gs : DGs) : DG := fun d ρ Q => ∃ ds, (d = .tuple ds ∨ d = wk ds) ∧ ds.length = n ∧ gs ds ρ Q
theorem qg_tup {es : List Expr} {kk : Nat} {pos : Pos} {vs : List Nat} {gs : DGs} {n : Nat} (hc : X.calm = true) (h : QGs X vs es gs) (hn : (assignEach es X.env).length = n := by rfl) (hst : (assignEach es X.env).findIdx? (·.1) = none := by rfl) : QG X vs (.Tuple es kk pos) (gT n gs) :=
  PG.sub (pg_tup hc h hn hst) fun v σ H Q h => by
  obtain ⟨G0, H0, G, ρ, d, Qd, k, rv, ⟨ds, e, hl, h⟩, fn⟩ := h
  rcases e with rfl | rfl
  · cases rv with
    | tup s1 s2 => exact ⟨_, _, rfl, sqT_mono k.gh s1.t, (rpa_length s2).trans hl, G0, H0, G, ρ, ds, Qd, k, s2, h, fn⟩
  · obtain ⟨a, xs, rfl, s1, s2⟩ := rp_wk rv
    exact ⟨_, _, rfl, sqT_mono k.gh s1, (rpa_length s2).trans hl, G0, H0, G, ρ, ds, Qd, k, s2, h, fn⟩
def dRet (de : DE) : DS := fun D ρ => de ρ (fun d => D.rt (.sh d)) (D.xd ρ)
def dRetO (dd : DO) : DS := fun D ρ => dd ρ (fun o => D.rt (.ow o)) (D.xd ρ)
theorem retSh {K : PySem.W.Frag} {G0 H0 G H : Hp} {σ : L2.St} {ρ : Sto} {v : V} {d : PyData} (k : Ok K G0 H0 G H σ ρ) (r : Rp K G v d) : RetOk K G0 H0 (.sh d) v H := ⟨G, k.g0, k.h0, k.gn, k.nw, r⟩
theorem qs_ret {e : Expr} {de : DE} {pos : Pos} (he : QE X W e de) : QS X W (.Return (some e) pos) (dRet de) := PS.sub (ps_ret he) fun D σ H h => by
  obtain ⟨G0, H0, G, ρ, Dd, k, h, nx, rt, bk, ct, ex⟩ := h
  exact ⟨G0, H0, G, ρ, _, Dd.xd ρ, k, h, fun G1 H1 v d k1 g1 rv q => rt _ v H1 (retSh k1 rv) q, xok_of ex⟩
theorem qs_retO {e : Expr} {dd : DO} {pos : Pos} (he : QO X W e dd) : QS X W (.Return (some e) pos) (dRetO dd) := PS.sub (ps_ret he) fun D σ H h => by
  obtain ⟨G0, H0, G, ρ, Dd, k, h, nx, rt, bk, ct, ex⟩ := h
  exact ⟨G0, H0, G, ρ, _, Dd.xd ρ, k, h, fun G1 H1 p ho o k1 g1 n1 n2 n3 n4 q => rt (.ow o) _ H1 ⟨G1, k1.g0, k1.h0, k1.gn, k1.nw, p, ho, rfl, k.h0.free n1, n2, n3, n4⟩ q, xok_of ex⟩
def dDrop (de : DE) : DS := fun D ρ => de ρ (fun _ => D.nx ρ) (D.xd ρ)
theorem qs_expr {e : Expr} {de : DE} {pos : Pos} (he : QE X W e de) (hs : swapsWith e none pos.line X.env = pure false := by rfl) : QS X W (.Expr e pos) (dDrop de) := PS.sub (ps_expr he hs) fun D σ H h => by
  obtain ⟨G0, H0, G, ρ, Dd, k, h, nx, rt, bk, ct, ex⟩ := h
  exact ⟨G0, H0, G, ρ, _, Dd.xd ρ, k, h, fun G1 H1 v d k1 g1 rv q => nx G1 H1 _ _ k1 q, xok_of ex⟩
def dIfS (t : DT) (a b : DS) : DS := fun D ρ => t ρ (fun c => if c = true then a D ρ else b D ρ) (D.xd ρ)
theorem qs_if {c : Expr} {a b : List Stmt} {pos : Pos} {t : DT} {d e : DS} (hc : QT X W c t) (ha : QSs X W a d) (hb : QSs X W b e) : QS X W (.If c a b pos) (dIfS t d e) := PS.sub (ps_if hc ha hb) fun D σ H h => by
  obtain ⟨G0, H0, G, ρ, Dd, k, h, nx, rt, bk, ct, ex⟩ := h
  refine ⟨G0, H0, G, ρ, _, Dd.xd ρ, k, h, fun G1 H1 c k1 g1 q => ?_, xok_of ex⟩
  cases c with
  | true =>
    rw [if_pos rfl] at q ⊢
    exact ⟨G0, H0, G1, ρ, Dd, k1, q, nx, rt, bk, ct, ex⟩
  | false =>
    rw [if_neg Bool.false_ne_true] at q ⊢
    exact ⟨G0, H0, G1, ρ, Dd, k1, q, nx, rt, bk, ct, ex⟩
theorem tyV_own {K : PySem.W.Frag} {H : Hp} {a : Addr} {xs : List V} (h : H a = some (.lst xs)) : tyV K "list" (.ref a) H := Or.inl ⟨rfl, _, SqL.of h⟩
def dApp (i : Nat) (de : DE) : DS := fun D ρ => ∃ ds, ρ[i]? = some (Slot.ow (.lst ds)) ∧ de ρ (fun d => ds.length < 100000 ∧ D.nx (ρ.set i (.ow (.lst (ds ++ [d]))))) (D.xd ρ)
theorem own_lst {K : PySem.W.Frag} {G0 H0 G H : Hp} {σ : L2.St} {ρ : Sto} {i : Nat} {ds : List PyData} (k : Ok K G0 H0 G H σ ρ) (hi : ρ[i]? = some (Slot.ow (.lst ds))) : ∃ a xs, σ[i]? = some (some (V.ref a)) ∧ H a = some (.lst xs) ∧ G a = none ∧ NF H0 a ∧ RpAll K G xs ds := by
  obtain ⟨a, ho, h1, h2, h3, h4, h5⟩ := k.ow i _ hi
  cases ho with
  | lst xs => exact ⟨a, xs, h1, h2, h3, h4, h5⟩
  | _ => exact h5.elim
theorem qs_app {i : Nat} {x : Str} {e : Expr} {de : DE} {p1 p2 p3 pos : Pos} (he : QE X W e de) (hs : swapsWith (.Call (.Attribute (.Name x p1) "append" p2) [e] [] p3) none pos.line X.env = pure false := by rfl)
    (hp : PE X (.Call (.Attribute (.Name x p1) "append" p2) [e] [] p3) (tBM X.K "list" rAppend (tVar i) (tCons (upE X.K W de) tNil))) :
    QS X W (.Expr (.Call (.Attribute (.Name x p1) "append" p2) [e] [] p3) pos) (dApp i de) := PS.sub (ps_expr hp hs) fun D σ H h => by
  obtain ⟨G0, H0, G, ρ, Dd, k, ⟨ds, hi, h⟩, nx, rt, bk, ct, ex⟩ := h
  obtain ⟨a, xs, h1, h2, h3, h4, h5⟩ := own_lst k hi
  refine ⟨_, h1, tyV_own h2, G0, H0, G, ρ, _, Dd.xd ρ, k, h, fun G1 H1 v d k1 g1 rv q => ?_, xok_of ex⟩
  obtain ⟨a', xs', h1', h2', h3', h4', h5'⟩ := own_lst k1 hi
  rw [h1] at h1'
  cases h1'
  refine ⟨a, xs', v, rfl, rfl, h2', sz_lt (by rw [rpa_length h5']; exact q.1), ?_⟩
  exact nx G1 _ σ _ (k1.mutOw (o' := .lst (ds ++ [d])) hi h1 (show RpAll _ _ _ _ from rpa_append h5' (.cons rv .nil))) q.2
end
end WH
namespace WH
open PySem PySem.Spec L2
variable [TabC] [ObjB]
abbrev DI := Sto → (List PyData → Prop) → XD → Prop
def IterOk (K : PySem.W.Frag) (J : It) (G : Hp) (ds : List PyData) : Prop := ∀ G1 H1, Same G G1 → Same G1 (nt H1) → ∀ i : Nat,
  (i < ds.length → J.go i H1) ∧ (ds.length ≤ i → J.stop i H1) ∧ ∀ d x H2, ds[i]? = some d → J.yld i H1 x H2 → ∃ G2, Gr G1 H1 G2 H2 ∧ Same G2 (nt H2) ∧ Rp K G2 x d
def upI (K : PySem.W.Frag) (W : XW) (di : DI) : TI := fun σ H R => ∃ G0 H0 G ρ Qd Xd, Ok K G0 H0 G H σ ρ ∧ di ρ Qd Xd ∧ (∀ G' H' J ds, Ok K G0 H0 G' H' σ ρ → Gr G H G' H' → IterOk K J G' ds → Qd ds → R J H') ∧ XOk K W G0 H0 G H σ ρ Xd
def QI (X : Cx) (W : XW) (tg iter : Expr) (di : DI) : Prop := PI X tg iter (upI X.K W di)
section
variable {X : Cx} {W : XW} {tg : Expr}
def iSeq (K : PySem.W.Frag) (tl : TE) : TI := fun σ H R => tl σ H fun x H1 => ∃ a, x = .ref a ∧ (((∃ xs, SqL K H1 a xs) ∧ R (Itl K a) H1) ∨ ((∃ xs, SqT K H1 a xs) ∧ R (Itt K a) H1))
theorem pi_seq {l : Expr} {tl : TE} (hl : PE X l tl) : PI X tg l (iSeq X.K tl) := by
  refine ⟨fun pins s σ H R I h => ?_⟩
  refine thn (hl.run pins s σ H _ I h) fun v s1 ⟨x, H1, I1, r1, q1⟩ => ?_
  obtain ⟨a, e, q⟩ := q1
  subst e
  cases r1
  rcases q with ⟨⟨xs, hq⟩, q⟩ | ⟨⟨xs, hq⟩, q⟩
  · obtain ⟨its, rv, p, hz⟩ := I1.list hq
    refine wpAny_pyIter_list p.isList ?_
    refine ⟨s1.heap.objs.size, [s1.heap.objs.size], _, _, H1, rfl, I1.kept (t' := s1.toks) fun b o e => Heap.get?_push_of_some _ e, turn_list a _, ⟨_, Heap.get?_push_size _ rfl, rfl, rfl⟩, fun b hb => ?_, q⟩
    have e : b = s1.heap.objs.size := by simpa using hb
    subst e
    exact I1.fpOk (Nat.le_refl _) (I1.hok.fresh (Nat.le_refl _))
  · obtain ⟨its, rv, p, hz⟩ := I1.tuple hq
    refine wpAny_pyIter_tuple (show s1.heap.IsTuple a its.toArray from p) ?_
    refine ⟨s1.heap.objs.size, [s1.heap.objs.size], _, _, H1, rfl, I1.kept (t' := s1.toks) fun b o e => Heap.get?_push_of_some _ e, turn_tuple a _, ⟨_, Heap.get?_push_size _ rfl, rfl, rfl⟩, fun b hb => ?_, q⟩
    have e : b = s1.heap.objs.size := by simpa using hb
    subst e
    exact I1.fpOk (Nat.le_refl _) (I1.hok.fresh (Nat.le_refl _))
theorem grow_refl {K : PySem.W.Frag} {G1 H1 : Hp} {x : V} {d : PyData} (gh : Same G1 (nt H1)) (r : Rp K G1 x d) : ∃ G2, Gr G1 H1 G2 H1 ∧ Same G2 (nt H1) ∧ Rp K G2 x d := ⟨G1, Gr.refl, gh, r⟩
theorem iter_list {K : PySem.W.Frag} {G : Hp} {a : Addr} {xs : List V} {ds : List PyData} (h : G a = some (.lst xs)) (r : RpAll K G xs ds) : IterOk K (Itl K a) G ds := fun G1 H1 g gh i => by
  have hl := rpa_length r
  have hq : SqL K H1 a xs := SqL.of (nt_some (gh _ _ (g _ _ h)))
  refine ⟨fun hi => ?_, fun hi => ⟨xs, hq, by omega⟩, fun d x H2 hd hy => ?_⟩
  · exact ⟨xs, xs[i]'(by omega), hq, by simp [show i < xs.length by omega]⟩
  · obtain ⟨rfl, hx⟩ := hy
    obtain ⟨v, e1, e2⟩ := rpa_get r hd
    rw [hx xs hq] at e1
    cases e1
    exact grow_refl gh (rp_mono g e2)
theorem iter_tup {K : PySem.W.Frag} {G : Hp} {a : Addr} {xs : List V} {ds : List PyData} (h : SqT K G a xs) (r : RpAll K G xs ds) : IterOk K (Itt K a) G ds := fun G1 H1 g gh i => by
  have hl := rpa_length r
  have hq : SqT K H1 a xs := sqT_mono (g.trans (gh.trans nt_le)) h
  refine ⟨fun hi => ?_, fun hi => ⟨xs, hq, by omega⟩, fun d x H2 hd hy => ?_⟩
  · exact ⟨xs, xs[i]'(by omega), hq, by simp [show i < xs.length by omega]⟩
  · obtain ⟨rfl, hx⟩ := hy
    obtain ⟨v, e1, e2⟩ := rpa_get r hd
    rw [hx xs hq] at e1
    cases e1
    exact grow_refl gh (rp_mono g e2)
def dIt (de : DE) : DI := fun ρ Q X => de ρ (fun d => ∃ b ds, d = dat b ds ∧ Q ds) X
theorem qi_e {e : Expr} {de : DE} (he : QE X W e de) : QI X W tg e (dIt de) := PI.sub (pi_seq he) fun σ H R h => by
  obtain ⟨G0, H0, G, ρ, Qd, Xd, k, h, fn, xo⟩ := h
  refine ⟨G0, H0, G, ρ, _, Xd, k, h, fun G1 H1 v d k1 g1 rv q => ?_, xo⟩
  obtain ⟨b, ds, rfl, q⟩ := q
  cases b with
  | false =>
    cases rv with
    | lst l1 l2 => exact ⟨_, rfl, .inl ⟨⟨_, SqL.of (k1.gh _ _ l1)⟩, fn G1 H1 _ ds k1 g1 (iter_list l1 l2) q⟩⟩
  | true =>
    cases rv with
    | tup l1 l2 => exact ⟨_, rfl, .inr ⟨⟨_, sqT_mono k1.gh l1.t⟩, fn G1 H1 _ ds k1 g1 (iter_tup l1.t l2) q⟩⟩
def rngD (lo : Int) (n : Nat) : List PyData := (List.range n).map fun (i : Nat) => PyData.int (lo + (i : Int))
theorem iter_rng {K : PySem.W.Frag} {G : Hp} {lo : Int} {n : Nat} : IterOk K (Itr lo n) G (rngD lo n) := fun G1 H1 g gh i => by
  have hl : (rngD lo n).length = n := by simp [rngD]
  refine ⟨fun hi => by rw [hl] at hi; exact hi, fun hi => by rw [hl] at hi; exact hi, fun d x H2 hd hy => ?_⟩
  obtain ⟨rfl, rfl⟩ := hy
  have hi : i < n := by
    have := (List.getElem?_eq_some_iff.mp hd).1
    omega
  have e : d = .int (lo + (i : Int)) := by
    simp [rngD, hi] at hd
    exact hd.symm
  subst e
  exact grow_refl gh (.int _)
def dRng1 (de : DE) : DI := fun ρ Q X => de ρ (fun d => ∃ n, d = .int n ∧ n ≤ 100000 ∧ -100000 ≤ n ∧ Q (rngD 0 n.toNat)) X
theorem qi_range1 {e : Expr} {p pos : Pos} {de : DE} (hm : X.mg "range" = none) (he : QE X W e de) (hg : Gl X "range" := by rfl) (hs : starEach [e] X.env = [(false, eval e X.env)] := by rfl) : QI X W tg (.Call (.Name "range" p) [e] [] pos) (dRng1 de) :=
  PI.sub (pi_range1 hg hm (qa_cons (W := W) he qa_nil hs) hs) fun σ H R h => by
  obtain ⟨G0, H0, G, ρ, Qd, Xd, k, h, fn, xo⟩ := h
  refine ⟨G0, H0, G, ρ, fun ds => ∃ n, ds = [.int n] ∧ n ≤ 100000 ∧ -100000 ≤ n ∧ Qd (rngD 0 n.toNat), Xd, k, ?_, fun G1 H1 vs ds k1 g1 rv q => ?_, xo⟩
  · have e : (fun x => dNil ρ (fun xs => ∃ n, x :: xs = [PyData.int n] ∧ n ≤ 100000 ∧ -100000 ≤ n ∧ Qd (rngD 0 n.toNat)) Xd) = fun d => ∃ n, d = .int n ∧ n ≤ 100000 ∧ -100000 ≤ n ∧ Qd (rngD 0 n.toNat) := by
      funext x
      simp [dNil]
    show de ρ (fun x => dNil ρ (fun xs => ∃ n, x :: xs = [PyData.int n] ∧ n ≤ 100000 ∧ -100000 ≤ n ∧ Qd (rngD 0 n.toNat)) Xd) Xd
    rw [e]
    exact h
  · obtain ⟨n, rfl, n1, n2, q⟩ := q
    cases rv with
    | cons r1 r2 =>
      cases r1
      cases r2
      exact ⟨n, rfl, by omega, by omega, fn G1 H1 _ _ k1 g1 iter_rng q⟩
theorem Ok.rebase {K : PySem.W.Frag} {G0 H0 G H : Hp} {σ : L2.St} {ρ : Sto} (k : Ok K G0 H0 G H σ ρ) : Ok K G H0 G H σ ρ := ⟨k.gn, Same.refl _, k.h0, k.tb, fun a o e => .inl e, k.len, k.sh, k.ow, k.ap, k.rw, k.tr, k.bB⟩
theorem nw_trans {G0 H0 G G' : Hp} (n1 : ∀ a o, G a = some o → G0 a = some o ∨ NS H0 a) (n2 : ∀ a o, G' a = some o → G a = some o ∨ NS H0 a) : ∀ a o, G' a = some o → G0 a = some o ∨ NS H0 a := fun a o e => by
  rcases n2 a o e with z | z
  · exact n1 a o z
  · exact .inr z
theorem Ok.unbase {K : PySem.W.Frag} {G0 H0 G H G' H' : Hp} {σ σ' : L2.St} {ρ ρ' : Sto} (k : Ok K G0 H0 G H σ ρ) (k' : Ok K G H0 G' H' σ' ρ') : Ok K G0 H0 G' H' σ' ρ' := ⟨k'.gn, k.g0.trans k'.g0, k'.h0, k'.tb, nw_trans k.nw k'.nw, k'.len, k'.sh, k'.ow, k'.ap, k'.rw, k'.tr, k'.bB⟩
theorem RetOk.unbase {K : PySem.W.Frag} {G0 H0 G H : Hp} {σ : L2.St} {ρ : Sto} {s : Slot} {v : V} {H' : Hp} (k : Ok K G0 H0 G H σ ρ) (r : RetOk K G H0 s v H') : RetOk K G0 H0 s v H' := by
  obtain ⟨G', r1, r2, r3, r4, r5⟩ := r
  exact ⟨G', k.g0.trans r1, r2, r3, nw_trans k.nw r4, r5⟩
def forW (dg : DG) (body : DS) (D : DEnds) : List PyData → Sto → Prop
  | [], ρ => D.nx ρ
  | d :: ds, ρ => dg d ρ fun ρ2 => body { D with nx := forW dg body D ds, ct := forW dg body D ds, bk := D.nx } ρ2
def dFor (di : DI) (dg : DG) (body : DS) : DS := fun D ρ => di ρ (fun ds => forW dg body D ds ρ) (D.xd ρ)
theorem up_for {K : PySem.W.Frag} {vs : List Nat} {di : DI} {dg : DG} {body : DS} (D : Ends) (σ : L2.St) (H : Hp) (h : upS K W (dFor di dg body) D σ H) : tFor (upI K W di) (upG K vs dg) (upS K W body) D σ H := by
  obtain ⟨G0, H0, G, ρ, Dd, k, h, nx, rt, bk, ct, ex⟩ := h
  refine ⟨G0, H0, G, ρ, _, Dd.xd ρ, k, h, fun G1 H1 J ds k1 g1 it q => ?_, xok_of ex⟩
  refine ⟨fun i m σ' H' => m = ds.length - i ∧ i ≤ ds.length ∧ ∃ G' ρ', Same G1 G' ∧ Ok K G0 H0 G' H' σ' ρ' ∧ forW dg body Dd (ds.drop i) ρ', ⟨ds.length, by omega, Nat.zero_le _, G1, ρ, Same.refl _, k1, q⟩, ?_⟩
  rintro i m σ' H' ⟨rfl, hi, G', ρ', gg, k', q'⟩
  obtain ⟨i1, i2, i3⟩ := it G' H' gg k'.gn i
  by_cases hlt : i < ds.length
  · refine .inr ⟨i1 hlt, fun σ2 H2 => ∃ G2 ρ2, Same G1 G2 ∧ Ok K G0 H0 G2 H2 σ2 ρ2 ∧ forW dg body Dd (ds.drop (i + 1)) ρ2, fun σ2 H2 ⟨G2, ρ2, a1, a2, a3⟩ => ⟨ds.length - (i + 1), by omega, rfl, by omega, G2, ρ2, a1, a2, a3⟩, fun x H2 hy => ?_⟩
    have hd : ds[i]? = some ds[i] := by simp [hlt]
    obtain ⟨G2, e1, e3, e5⟩ := i3 _ x H2 hd hy
    have k2 : Ok K G0 H0 G2 H2 σ' ρ' := k'.grow e1.gg e1.hh e3 e1.nw
    rw [List.drop_eq_getElem_cons hlt] at q'
    refine ⟨G0, H0, G2, ρ', ds[i], _, k2, e5, q', fun σ3 ρ3 k3 _ _ q3 => ?_⟩
    have nxt : ∀ G4 H4 σ4 ρ4, Ok K G2 H0 G4 H4 σ4 ρ4 → forW dg body Dd (ds.drop (i + 1)) ρ4 → ∃ G5 ρ5, Same G1 G5 ∧ Ok K G0 H0 G5 H4 σ4 ρ5 ∧ forW dg body Dd (ds.drop (i + 1)) ρ5 := fun G4 H4 σ4 ρ4 k4 q4 => ⟨G4, ρ4, (gg.trans e1.gg).trans k4.g0, k3.unbase k4, q4⟩
    exact ⟨G2, H0, G2, ρ3, _, k3.rebase, q3, nxt, fun s v H5 r q => rt s v H5 (RetOk.unbase k3 r) q, fun G4 H4 σ4 ρ4 k4 q4 => nx G4 H4 σ4 ρ4 (k3.unbase k4) q4, nxt, fun G4 H4 σ4 ρ4 x cls d k4 e4 q4 => ex G4 H4 σ4 ρ4 x cls d (k3.unbase k4) e4 q4⟩
  · have e : ds.drop i = [] := List.drop_eq_nil_of_le (by omega)
    rw [e] at q'
    exact .inl ⟨i2 (by omega), nx G' H' σ' ρ' k' q'⟩
theorem qs_for {iter : Expr} {body : List Stmt} {vs : List Nat} {di : DI} {dg : DG} {db : DS} {pos : Pos} (hp : PassesOwn (model X.prog X.w) X.A X.env X.xe) (hc : X.calm = true) (hi : QI X W tg iter di) (hg : QG X vs tg dg) (hb : QSs X W body db)
    (hs : ∀ x, foldedSetIterable iter X.env x = pure x := by intro _; rfl) : QS X W (.For tg iter body [] pos) (dFor di dg db) := PS.sub (ps_for hp hc hi hg hb hs) up_for
def dWhile (t : DT) (body : DS) : DS := fun D ρ => ∃ I : Nat → Sto → Prop, (∃ m, I m ρ) ∧ ∀ m ρ', I m ρ' → t ρ' (fun b => if b = true then body { D with nx := fun ρ2 => ∃ m', m' < m ∧ I m' ρ2, ct := fun ρ2 => ∃ m', m' < m ∧ I m' ρ2, bk := D.nx } ρ' else D.nx ρ') (D.xd ρ')
theorem qs_while {c : Expr} {body : List Stmt} {t : DT} {db : DS} {pos : Pos} (hp : PassesOwn (model X.prog X.w) X.A X.env X.xe) (hc : QT X W c t) (hb : QSs X W body db) : QS X W (.While c body [] pos) (dWhile t db) := PS.sub (ps_while hp hc hb) fun D σ H h => by
  obtain ⟨G0, H0, G, ρ, Dd, k, ⟨I, ⟨m0, i0⟩, turn⟩, nx, rt, bk, ct, ex⟩ := h
  refine ⟨fun m σ' H' => ∃ G' ρ', Ok X.K G0 H0 G' H' σ' ρ' ∧ I m ρ', ⟨m0, G, ρ, k, i0⟩, ?_⟩
  rintro m σ' H' ⟨G', ρ', k', im⟩
  refine ⟨G0, H0, G', ρ', _, Dd.xd ρ', k', turn m ρ' im, fun G1 H1 b k1 g1 q => ?_, xok_of ex⟩
  cases b with
  | true =>
    rw [if_pos rfl] at q ⊢
    refine ⟨fun σ2 H2 => ∃ G2 ρ2, Ok X.K G0 H0 G2 H2 σ2 ρ2 ∧ ∃ m', m' < m ∧ I m' ρ2, fun σ2 H2 ⟨G2, ρ2, k2, m', hm, i2⟩ => ⟨m', hm, G2, ρ2, k2, i2⟩, ?_⟩
    exact ⟨G0, H0, G1, ρ', _, k1, q, fun G4 H4 σ4 ρ4 k4 q4 => ⟨G4, ρ4, k4, q4⟩, rt, nx, fun G4 H4 σ4 ρ4 k4 q4 => ⟨G4, ρ4, k4, q4⟩, ex⟩
  | false =>
    rw [if_neg Bool.false_ne_true] at q ⊢
    exact nx G1 H1 σ' ρ' k1 q
def wipeD (ρ : Sto) : List Nat → Sto
  | [] => ρ
  | v :: vs => (wipeD ρ vs).set v .no
theorem ok_wipe {K : PySem.W.Frag} {G0 H0 G H : Hp} {σ : L2.St} {ρ : Sto} (k : Ok K G0 H0 G H σ ρ) : ∀ vs : List Nat, Ok K G0 H0 G H (wipe σ vs) (wipeD ρ vs)
  | [] => k
  | v :: vs => (ok_wipe k vs).setNo
theorem wipe_get : ∀ (vs : List Nat) {σ : L2.St} {i : Nat}, i ∉ vs → (wipe σ vs)[i]? = σ[i]?
  | [], _, _, _ => rfl
  | v :: vs, σ, i, h => by
    unfold wipe
    rw [getElem_set_eq, if_neg (fun z => h (by rw [z]; exact List.mem_cons_self)), wipe_get vs fun z => h (List.mem_cons_of_mem _ z)]
theorem wipe_in : ∀ (vs : List Nat) {σ : L2.St} {i : Nat}, i ∈ vs → (wipe σ vs)[i]? = if i < σ.length then some none else none
  | [], _, _, h => absurd h (by simp)
  | v :: vs, σ, i, h => by
    unfold wipe
    rw [getElem_set_eq]
    by_cases hv : v = i
    · rw [if_pos hv, wipe_length, hv]
    · rw [if_neg hv]
      exact wipe_in vs ((List.mem_cons.mp h).resolve_left fun z => hv z.symm)
theorem wipe_eq {σ σ' : L2.St} {vs ws : List Nat} (hl : σ'.length = σ.length) (h : ∀ i, i ∉ vs → σ'[i]? = σ[i]?) (hw : ∀ i ∈ vs, i ∈ ws) : wipe σ' ws = wipe σ ws := by
  apply List.ext_getElem?
  intro i
  by_cases hi : i ∈ ws
  · rw [wipe_in ws hi, wipe_in ws hi, hl]
  · rw [wipe_get ws hi, wipe_get ws hi]
    exact h i fun z => hi (hw i z)
theorem wipe_wipe {σ : L2.St} (vs : List Nat) : wipe (wipe σ vs) vs = wipe σ vs := by
  apply List.ext_getElem?
  intro i
  by_cases hi : i ∈ vs
  · rw [wipe_in vs hi, wipe_in vs hi, wipe_length]
  · rw [wipe_get vs hi]
def noX : XD := fun _ => False
def lcW (dg : DG) (dt : DT) (de : DE) (ρ : Sto) (Q : List PyData → Prop) : List PyData → List PyData → Prop
  | [], acc => Q acc
  | d :: ds, acc => dg d ρ fun ρ2 => dt ρ2 (fun b => if b = true then de ρ2 (fun x => acc.length < 100000 ∧ lcW dg dt de ρ Q ds (acc ++ [x])) noX else lcW dg dt de ρ Q ds acc) noX
def dLc (vs : List Nat) (di : DI) (dg : DG) (dt : DT) (de : DE) : DO := fun ρ Q X => di ρ (fun ds => lcW dg dt de (wipeD ρ vs) (fun out => Q (.lst out)) ds []) X
abbrev W0 (mg : Str → Option Value) : XW := (mg, fun _ _ _ _ => False)
theorem xok_no {K : PySem.W.Frag} {W : XW} {G0 H0 G H : Hp} {σ : L2.St} {ρ : Sto} : XOk K W G0 H0 G H σ ρ noX := fun _ _ _ _ _ _ _ _ z => z.elim
theorem up_lc {K : PySem.W.Frag} {mg : Str → Option Value} {vs ws : List Nat} {di : DI} {dg : DG} {dt : DT} {de : DE} (hv : ∀ i ∈ vs, i ∈ ws) (σ : L2.St) (H : Hp) (Q : VK) (h : upO K W (dLc ws di dg dt de) σ H Q) : tLc (upI K W di) (upG K vs dg) (upT K (W0 mg) dt) (upE K (W0 mg) de) ws σ H Q := by
  obtain ⟨G0, H0, G, ρ, Qd, Xd, k, h, fn, xo⟩ := h
  refine ⟨G0, H0, G, ρ, _, Xd, k, h, fun G1 H1 J ds k1 g1 it q => ?_, xo⟩
  intro Dl hD
  have kD : Ok K G0 H0 G1 (upd H1 Dl (.lst [])) σ ρ := k1.fresh hD
  -- the list at Dl grows; nothing else names it
  have hun : ∀ {G2 H2 : Hp}, Gr G1 H1 G2 H2 → ∀ (j : Nat) (u : OD), ρ[j]? = some (Slot.ow u) → σ[j]? ≠ some (some (V.ref Dl)) := fun {G2 H2} _ j u e z => by
    obtain ⟨a, ho, z1, z2, _⟩ := k1.ow j u e
    rw [z1] at z
    cases z
    rw [hD] at z2
    cases z2
  refine ⟨fun i m H' => m = ds.length - i ∧ i ≤ ds.length ∧ ∃ G' xs acc, Gr G1 H1 G' H' ∧ Ok K G0 H0 G' H' σ ρ ∧ H' Dl = some (.lst xs) ∧ G' Dl = none ∧ RpAll K G' xs acc ∧ lcW dg dt de (wipeD ρ ws) (fun out => Qd (.lst out)) (ds.drop i) acc,
    ⟨ds.length, by omega, Nat.zero_le _, G1, [], [], Gr.fresh hD, kD, upd_same, k1.gh.free hD, .nil, q⟩, ?_⟩
  rintro i m H' ⟨rfl, hi, G', xs, acc, gg, k', hl, hg, ra, q'⟩
  obtain ⟨i1, i2, i3⟩ := it G' H' gg.gg k'.gn i
  by_cases hlt : i < ds.length
  · refine .inr ⟨i1 hlt, fun H2 => ∃ G2 ys acc2, Gr G1 H1 G2 H2 ∧ Ok K G0 H0 G2 H2 σ ρ ∧ H2 Dl = some (.lst ys) ∧ G2 Dl = none ∧ RpAll K G2 ys acc2 ∧ lcW dg dt de (wipeD ρ ws) (fun out => Qd (.lst out)) (ds.drop (i + 1)) acc2,
      fun H2 ⟨G2, ys, acc2, a1, a3, a4, a5, a6, a7⟩ => ⟨ds.length - (i + 1), by omega, rfl, by omega, G2, ys, acc2, a1, a3, a4, a5, a6, a7⟩, fun x H2 hy => ?_⟩
    have hd : ds[i]? = some ds[i] := by simp [hlt]
    obtain ⟨G2, e1, e3, e5⟩ := i3 _ x H2 hd hy
    have k2 : Ok K G0 H0 G2 H2 σ ρ := k'.grow e1.gg e1.hh e3 e1.nw
    rw [List.drop_eq_getElem_cons hlt] at q'
    refine ⟨G0, H0, G2, wipeD ρ ws, ds[i], _, ok_wipe k2 ws, e5, q', fun σ3 ρ3 k3 l3 s3 q3 => ⟨?_, ?_⟩⟩
    · rw [wipe_eq (σ := wipe σ ws) l3 s3 hv, wipe_wipe]
    · refine ⟨G0, H0, G2, ρ3, _, noX, k3, q3, fun G3 H3 b k4 g3 q4 => ?_, xok_no⟩
      have kk : ∀ {G4 H4 : Hp}, Gr G2 H2 G4 H4 → Same G4 (nt H4) → Ok K G0 H0 G4 H4 σ ρ := fun {G4 H4} g gh => k2.grow g.gg g.hh gh g.nw
      cases b with
      | true =>
        dsimp only at q4 ⊢
        rw [if_pos rfl] at q4 ⊢
        refine ⟨G0, H0, G3, ρ3, _, noX, k4, q4, fun G4 H4 v d k5 g4 rv q5 => ?_, xok_no⟩
        have g34 := (g3.trans g4)
        have hl4 : H4 Dl = some (.lst xs) := g34.hh.at (e1.hh.at hl ntb_lst) ntb_lst
        have hg4 : G4 Dl = none := (e1.trans g34).out hg hl
        refine ⟨xs, hl4, sz_lt (by rw [rpa_length ra]; exact q5.1), G4, xs ++ [v], acc ++ [d], ?_, ?_, upd_same, hg4, rpa_append (rpa_mono (e1.trans g34).gg ra) (.cons rv .nil), q5.2⟩
        · have g := gg.trans (e1.trans g34)
          exact ⟨g.gg, ex_mut g.hh (nf_of hD) hl4, g.nw⟩
        · have k6 := kk g34 k5.gn
          refine ⟨by rw [nt_upd ntb_lst]; exact same_mut k6.gn hg4, k6.g0, ex_mut k6.h0 (k1.h0.free (nf_of hD)) hl4, tabs_mut k6.tb hl4 ntb_lst (fun _ z => by cases z), k6.nw, k6.len, k6.sh, fun j o ho => ?_, k6.ap, k6.rw, k6.tr, k6.bB⟩
          obtain ⟨a, ho', b1, b2, b3, b4, b5⟩ := k6.ow j o ho
          have ne : a ≠ Dl := fun z => hun (gg.trans (e1.trans g34)) j o ho (by rw [← z]; exact b1)
          exact ⟨a, ho', b1, by rw [upd_ne ne]; exact b2, b3, b4, b5⟩
      | false =>
        dsimp only at q4 ⊢
        rw [if_neg Bool.false_ne_true] at q4 ⊢
        exact ⟨G3, xs, acc, gg.trans (e1.trans g3), kk g3 k4.gn, g3.hh.at (e1.hh.at hl ntb_lst) ntb_lst, (e1.trans g3).out hg hl, rpa_mono (e1.trans g3).gg ra, q4⟩
  · have e : ds.drop i = [] := List.drop_eq_nil_of_le (by omega)
    rw [e] at q'
    exact .inl ⟨i2 (by omega), fn G' H' Dl (.lst xs) (.lst acc) k' (g1.trans gg) (g1.hh.free (nf_of hD)) hg hl ra q'⟩
def dYes : DT := fun _ Q _ => Q true
def QTs (X : Cx) (W : XW) (ifs : List Expr) (dt : DT) : Prop := PTs X ifs (upT X.K W dt)
theorem qts_nil : QTs X W [] dYes := PTs.sub pts_nil fun σ H Q h => by
  obtain ⟨G0, H0, G, ρ, Qd, Xd, k, h, fn, xo⟩ := h
  exact fn G H true k Gr.refl h
theorem qts_one {c : Expr} {dt : DT} (h : QT X W c dt) : QTs X W [c] dt := pts_one h
theorem qo_lc {elt iter : Expr} {ifs : List Expr} {scope : Scope} {own : List (Str × Nat)} {pos : Pos} {vs ws : List Nat} {di : DI} {dg : DG} {dt : DT} {de : DE} (hc : X.calm = true) (hN : X.N.Nodup) (hi : QI X W tg iter di) (ok : BlkOk X.N X.env.scope scope own)
    (hg : ∀ (s : Shared) (H : Hp) (C : Addr) (cl : List (Str × Addr)) (fp : List Addr), QG (X.blk s H scope (compEnvC scope cl C X.env) fp) vs tg dg) (ht : ∀ (s : Shared) (H : Hp) (C : Addr) (cl : List (Str × Addr)) (fp : List Addr), QTs (X.blk s H scope (compEnvC scope cl C X.env) fp) (W0 X.mg) ifs dt)
    (he : ∀ (s : Shared) (H : Hp) (C : Addr) (cl : List (Str × Addr)) (fp : List Addr), QE (X.blk s H scope (compEnvC scope cl C X.env) fp) (W0 X.mg) elt de) (hw : own.map (·.2) = ws := by rfl) (hv : ∀ i ∈ vs, i ∈ ws := by decide) (hs : ∀ x, foldedSetIterable iter X.env x = pure x := by intro _; rfl) :
    QO X W (.ListComp elt [⟨tg, iter, ifs, 0⟩] scope pos) (dLc ws di dg dt de) := by
  subst hw
  exact PE.sub (pe_lc (g := upG X.K vs dg) (tt := upT X.K (W0 X.mg) dt) (te := upE X.K (W0 X.mg) de) hc hN hi ok hg ht he hs) (up_lc hv)
def PSp (K : PySem.W.Frag) (mg : Str → Option Value) (C : Ct) : Sp := fun vs H Q E => ∃ G ds R Xd, Same G (nt H) ∧ LamX.Tabs TabC.T H ∧ RpAll K G vs ds ∧ C ds R Xd ∧ (∀ s v H', RetOk K G H s v H' → R s → Q v H') ∧
  ∀ G' H' x cls d, Same G G' → Ex H H' → Same G' (nt H') → (∀ a o, G' a = some o → G a = some o ∨ NS H a) → ExcOk K mg G' H' x cls d → Xd x → E cls d H'
def dCall (C : Ct) (da : DA) : DE := fun ρ Q X => da ρ (fun ds => C ds (fun s => ∃ d, slotD s = some d ∧ Q d) X) X
def dCallO (C : Ct) (da : DA) : DO := fun ρ Q X => da ρ (fun ds => C ds (fun s => ∃ o, s = .ow o ∧ Q o) X) X
theorem excOk_of {K : PySem.W.Frag} {mg : Str → Option Value} (hw : W.1 = mg) {G0 H0 G H : Hp} {σ : L2.St} {ρ : Sto} {Xd : XD} {G2 H2 : Hp} (k : Ok K G0 H0 G H σ ρ) (gg : Gr G2 H2 G H) (xo : XOk K W G0 H0 G2 H2 σ ρ Xd) : ∀ G' H' x cls d, Same G G' → Ex H H' → Same G' (nt H') → (∀ a o, G' a = some o → G a = some o ∨ NS H a) → ExcOk K mg G' H' x cls d → Xd x → WE W.2 σ cls d H' :=
  fun G' H' x cls d s1 s2 s3 s4 e z => xo G' H' x cls d (k.grow s1 s2 s3 s4) (gg.trans ⟨s1, s2, s4⟩) (by rw [hw]; exact e) z
section
variable {k : Nat} {f : Addr} {fd : FuncData} {ps : List Str} {C : Ct} {x : Str} {p pos : Pos} {e : Expr} {es : List Expr} {da : DA}
theorem qe_call (F : FnOk X.prog X.w X.K X.mg X.base (L2N.CX X.prog X.w) k f fd ps (PSp X.K X.mg C)) (hr : Room k X.A) (hm : X.mg x = some (.ref f)) (hk : PySem.W.keepIn X.K (.ref f) = true) (hb : L2.Binds X.K fd ps []) (tk : L2N.Takes X W.2) (hw : W.1 = X.mg) (ha : QA X W (e :: es) da) (hg : Gl X x := by rfl)
    (hdb : (x == ("__debug__" : Str)) = false := by decide) (he : starEach (e :: es) X.env = (false, eval e X.env) :: starEach es X.env := by rfl) (hpl : (backTo pos (starEach es X.env)).any (·.1) = false := by rfl) : QE X W (.Call (.Name x p) (e :: es) [] pos) (dCall C da) :=
  PE.sub (pe_callS F hr hg hm hk hb (fun σ => L2N.passAt tk σ) ha hdb he hpl) fun σ H Q h => by
  obtain ⟨G0, H0, G, ρ, Qd, Xd, k, h, fn, xo⟩ := h
  refine ⟨G0, H0, G, ρ, _, Xd, k, h, fun G1 H1 vs ds k1 g1 rv q => ?_, xo⟩
  refine ⟨G1, ds, _, Xd, k1.gn, k1.tb, rv, q, fun s v H' r q => ?_, excOk_of hw k1 g1 xo⟩
  obtain ⟨d, hd, q⟩ := q
  obtain ⟨G', k', g', rv'⟩ := RetOk.sh k1 r hd
  exact fn G' H' v d k' (g1.trans g') rv' q
theorem qo_call (F : FnOk X.prog X.w X.K X.mg X.base (L2N.CX X.prog X.w) k f fd ps (PSp X.K X.mg C)) (hr : Room k X.A) (hm : X.mg x = some (.ref f)) (hk : PySem.W.keepIn X.K (.ref f) = true) (hb : L2.Binds X.K fd ps []) (tk : L2N.Takes X W.2) (hw : W.1 = X.mg) (ha : QA X W (e :: es) da) (hg : Gl X x := by rfl)
    (hdb : (x == ("__debug__" : Str)) = false := by decide) (he : starEach (e :: es) X.env = (false, eval e X.env) :: starEach es X.env := by rfl) (hpl : (backTo pos (starEach es X.env)).any (·.1) = false := by rfl) : QO X W (.Call (.Name x p) (e :: es) [] pos) (dCallO C da) :=
  PE.sub (pe_callS F hr hg hm hk hb (fun σ => L2N.passAt tk σ) ha hdb he hpl) fun σ H Q h => by
  obtain ⟨G0, H0, G, ρ, Qd, Xd, k, h, fn, xo⟩ := h
  refine ⟨G0, H0, G, ρ, _, Xd, k, h, fun G1 H1 vs ds k1 g1 rv q => ?_, xo⟩
  refine ⟨G1, ds, _, Xd, k1.gn, k1.tb, rv, q, fun s v H' r q => ?_, excOk_of hw k1 g1 xo⟩
  obtain ⟨o, rfl, q⟩ := q
  obtain ⟨G', r1, r2, r3, r4, p, ho, rfl, n1, n2, n3, n4⟩ := r
  exact fn G' H' p ho o (k1.grow r1 r2 r3 r4) (g1.trans ⟨r1, r2, r4⟩) (g1.hh.free n1) n2 n3 n4 q
end
def st0 (N : List Str) (ds : List PyData) : Sto := ds.map Slot.sh ++ List.replicate (N.length - ds.length) Slot.no
theorem ok_start {K : PySem.W.Frag} {G H : Hp} {N : List Str} {vs : List V} {ds : List PyData} (gh : Same G (nt H)) (tb : LamX.Tabs TabC.T H) (r : RpAll K G vs ds) (hB : Same ObjB.B (nt H)) : Ok K G H G H (L2.start N vs) (st0 N ds) := by
  have hl := rpa_length r
  have no : ∀ (i : Nat) (o : OD), (st0 N ds)[i]? ≠ some (Slot.ow o) := fun i o e => by
    unfold st0 at e
    rw [List.getElem?_append] at e
    split at e
    · rw [List.getElem?_map] at e
      cases q : ds[i]? with
      | none => rw [q] at e; cases e
      | some d => rw [q] at e; cases e
    · rw [List.getElem?_replicate] at e
      split at e <;> cases e
  have nr : ∀ (i : Nat) (v : V) (x : Option (Addr × List (Str × PyData))), (st0 N ds)[i]? ≠ some (Slot.raw v x) := fun i o x e => by
    unfold st0 at e
    rw [List.getElem?_append] at e
    split at e
    · rw [List.getElem?_map] at e
      cases q : ds[i]? with
      | none => rw [q] at e; cases e
      | some d => rw [q] at e; cases e
    · rw [List.getElem?_replicate] at e
      split at e <;> cases e
  have nt' : ∀ (i : Nat) (a : Addr) (t : ST), (st0 N ds)[i]? ≠ some (Slot.tr a t) := fun i a o e => by
    unfold st0 at e
    rw [List.getElem?_append] at e
    split at e
    · rw [List.getElem?_map] at e
      cases q : ds[i]? with
      | none => rw [q] at e; cases e
      | some d => rw [q] at e; cases e
    · rw [List.getElem?_replicate] at e
      split at e <;> cases e
  refine ⟨gh, Same.refl _, Ex.refl _, tb, fun a o e => .inl e, ?_, fun i d e => ?_, fun i o e => absurd e (no i o), fun i j o u a _ e => absurd e (no i o), fun i v x e => absurd e (nr i v x), fun i a t e => absurd e (nt' i a t), hB⟩
  · simp [L2.start, st0, hl]
  · unfold st0 at e
    rw [List.getElem?_append] at e
    split at e
    · rename_i hi
      rw [List.getElem?_map] at e
      cases q : ds[i]? with
      | none => rw [q] at e; cases e
      | some d' =>
        rw [q] at e
        cases e
        obtain ⟨v, e1, e2⟩ := rpa_get r q
        refine ⟨v, ?_, e2⟩
        unfold L2.start
        rw [List.getElem?_append_left (by rw [List.length_map, hl]; simpa using hi), List.getElem?_map, e1]
        rfl
    · rw [List.getElem?_replicate] at e
      split at e <;> cases e
end
section
variable {P : Program} {w : World} {K : PySem.W.Frag} {mg : Str → Option Value} {base : Heap}
abbrev WF (mg : Str → Option Value) (E : XK) : XW := (mg, fun cls d _ H => E cls d H)
omit [ObjB] in
theorem fn_ok {x qual : Str} {st : Stmt} {f : Addr} {fd : FuncData} {N ps : List Str} {k : Nat} {C : Ct} {db : DS} {dvs : List V} {kws : List (Str × V)} (F : FunD K x qual (defArgs st) (defBody st) (defScope st) dvs kws f fd) (S : FnScope N ps (defScope st)) (len : ∀ ds R Xd, C ds R Xd → ds.length = ps.length)
    (hbody : ∀ (cdv : Value) (A : Around) (outer : List Env) (s : Shared) (H : Hp) (E : XK), Room k (A.deeper (PyProof.Rows.envOfC qual (defScope st) s.heap.objs.size f cdv)) → @QSs _ objNil (cxOf (L2N.CX P w) P w K mg base N qual (defScope st) f cdv A outer s H E) (WF mg E) (defBody st) db)
    (h : ∀ ds R Xd, C ds R Xd → db { nx := fun _ => R (.sh .none), rt := R, ex := fun x _ => Xd x } (st0 N ds)) : FnOk P w K mg base (L2N.CX P w) (k + 1) f fd ps (PSp K mg C) := by
  letI : ObjB := objNil
  refine F.ok S (fun vs H Q E h => ?_) (fun cdv A outer s H vs Q E hr hsp => ⟨_, hbody cdv A outer s H E hr, ?_⟩)
  · obtain ⟨G, ds, R, Xd, _, _, r, c, _⟩ := h
    rw [rpa_length r]
    exact len _ _ _ c
  · obtain ⟨G, ds, R, Xd, gh, tb, r, c, rt, ex⟩ := hsp
    refine ⟨G, H, G, _, _, ok_start gh tb r sameNil, h ds R Xd c, fun G' H' σ' ρ' k' q => rt (.sh .none) _ _ (retSh k' .non) q, rt, fun _ _ _ _ _ z => z.elim, fun _ _ _ _ _ z => z.elim, fun G' H' σ' ρ' x cls d k' e q => ex G' H' x cls d k'.g0 k'.h0 k'.gn k'.nw e q⟩
end
end WH
namespace WH
open PySem PySem.Spec L2
variable [TabC] [ObjB]
section
variable {X : Cx} {W : XW} {x : Str} {p pos : Pos} {e : Expr} {es : List Expr}
def dCB (f : List PyData → (PyData → Prop) → Prop) (da : DA) : DE := fun ρ Q X => da ρ (fun ds => f ds Q) X
def dCBC (f : Bool → List PyData → (PyData → Prop) → Prop) (dc : DC) : DE := fun ρ Q X => dc ρ (fun b ds => f b ds Q) X
theorem up_cb {K : PySem.W.Frag} {r : List V → Hp → VK → Prop} {f : List PyData → (PyData → Prop) → Prop} {da : DA} (hr : RAE K r f) (σ : L2.St) (H : Hp) (Q : VK) (h : upE K W (dCB f da) σ H Q) : tCB r (upA K W da) σ H Q := by
  obtain ⟨G0, H0, G, ρ, Qd, Xd, k, h, fn, xo⟩ := h
  refine ⟨G0, H0, G, ρ, _, Xd, k, h, fun G1 H1 xs ds k1 g1 rx hb => ?_, xo⟩
  exact hr G0 H0 G1 H1 σ ρ xs ds Qd Q k1 rx hb fun G2 H2 v d k2 g2 rv q => fn G2 H2 v d k2 (g1.trans g2) rv q
theorem up_cbc {K : PySem.W.Frag} {r : List V → Hp → VK → Prop} {f : Bool → List PyData → (PyData → Prop) → Prop} {dc : DC} (hr : RCE K r f) (σ : L2.St) (H : Hp) (Q : VK) (h : upE K W (dCBC f dc) σ H Q) : tCB r (tCons (upC K W dc) tNil) σ H Q := by
  obtain ⟨G0, H0, G, ρ, Qd, Xd, k, h, fn, xo⟩ := h
  refine ⟨G0, H0, G, ρ, _, Xd, k, h, fun G1 H1 a xs b ds k1 g1 sq rx hb => ?_, xo⟩
  exact hr G0 H0 G1 H1 σ ρ a xs b ds Qd Q k1 sq rx hb fun G2 H2 v d k2 g2 rv q => fn G2 H2 v d k2 (g1.trans g2) rv q
theorem qe_callB {id : String} {r : List V → Hp → VK → Prop} {f : List PyData → (PyData → Prop) → Prop} {da : DA} (hr : RAE X.K r f) (hc : CallR X (.builtin id) r) (hm : X.mg x = none) (hv : bootBuiltins x = some (.builtin id)) (ha : QA X W (e :: es) da) (hg : Gl X x := by rfl) (hn : x ≠ "__name__" := by decide) (hdb : (x == ("__debug__" : Str)) = false := by decide)
    (he : starEach (e :: es) X.env = (false, eval e X.env) :: starEach es X.env := by rfl) (hpl : (backTo pos (starEach es X.env)).any (·.1) = false := by rfl) : QE X W (.Call (.Name x p) (e :: es) [] pos) (dCB f da) := PE.sub (pe_callB hc hg hm hv ha hn hdb he hpl) (up_cb hr)
theorem qe_callBC {id : String} {r : List V → Hp → VK → Prop} {f : Bool → List PyData → (PyData → Prop) → Prop} {dc : DC} (hr : RCE X.K r f) (hc : CallR X (.builtin id) r) (hm : X.mg x = none) (hv : bootBuiltins x = some (.builtin id)) (ha : QC X W e dc) (hg : Gl X x := by rfl) (hn : x ≠ "__name__" := by decide) (hdb : (x == ("__debug__" : Str)) = false := by decide)
    (he : starEach [e] X.env = (false, eval e X.env) :: starEach [] X.env := by rfl) (hpl : (backTo pos (starEach [] X.env)).any (·.1) = false := by rfl) : QE X W (.Call (.Name x p) [e] [] pos) (dCBC f dc) := PE.sub (pe_callB hc hg hm hv (pa_cons ha pa_nil he) hn hdb he hpl) (up_cbc hr)
theorem qe_callTC {T : String} {r : List V → Hp → VK → Prop} {f : Bool → List PyData → (PyData → Prop) → Prop} {dc : DC} (hr : RCE X.K r f) (hc : CallR X (.type T) r) (hm : X.mg x = none) (hv : bootBuiltins x = some (.type T)) (ha : QC X W e dc) (hg : Gl X x := by rfl) (hn : x ≠ "__name__" := by decide) (hdb : (x == ("__debug__" : Str)) = false := by decide)
    (he : starEach [e] X.env = (false, eval e X.env) :: starEach [] X.env := by rfl) (hpl : (backTo pos (starEach [] X.env)).any (·.1) = false := by rfl) : QE X W (.Call (.Name x p) [e] [] pos) (dCBC f dc) := PE.sub (pe_callTy hc hg hm hv (pa_cons ha pa_nil he) hn hdb he hpl) (up_cbc hr)
def lenD : List PyData → (PyData → Prop) → Prop
  | [.str s], Q => s.length ≤ 100000 ∧ Q (.int s.length)
  | [.list xs], Q => Q (.int xs.length)
  | [.tuple xs], Q => Q (.int xs.length)
  | _, _ => False
theorem len_E {K : PySem.W.Frag} : RAE K (fun xs H Q => ∃ x n, xs = [x] ∧ LenV K x H n ∧ Q (.int n) H) lenD := by
  intro G0 H0 G H σ ρ xs ds Qd Q k rx hf fn
  cases rx with
  | nil => exact hf.elim
  | cons r t =>
    cases t with
    | cons r2 t2 => cases r <;> exact hf.elim
    | nil =>
      cases r with
      | str s => exact ⟨_, _, rfl, ⟨sz_of hf.1, rfl⟩, fn G H _ _ k Gr.refl (.int _) hf.2⟩
      | lst h1 h2 => exact ⟨_, _, rfl, .inl ⟨_, SqL.of (k.gh _ _ h1), rfl⟩, fn G H _ _ k Gr.refl (.int _) (by rw [rpa_length h2]; exact hf)⟩
      | tup h1 h2 => exact ⟨_, _, rfl, .inr ⟨_, sqT_mono k.gh h1.t, rfl⟩, fn G H _ _ k Gr.refl (.int _) (by rw [rpa_length h2]; exact hf)⟩
      | _ => exact hf.elim
theorem qe_len {de : DE} (hm : X.mg "len" = none) (ha : QE X W e de) (hg : Gl X "len" := by rfl) (he : starEach [e] X.env = (false, eval e X.env) :: starEach [] X.env := by rfl) : QE X W (.Call (.Name "len" p) [e] [] pos) (dCB lenD (dCons de dNil)) := qe_callB len_E call_len hm boot_len (qa_cons ha qa_nil he) hg (he := he)
def lenC (_ : Bool) (ds : List PyData) (Q : PyData → Prop) : Prop := Q (.int ds.length)
theorem lenC_E {K : PySem.W.Frag} : RCE K (fun xs H Q => ∃ p ys, xs = [.ref p] ∧ (SqL K H p ys ∨ SqT K H p ys) ∧ Q (.int ys.length) H) lenC := by
  intro G0 H0 G H σ ρ a xs b ds Qd Q k sq rx hf fn
  exact ⟨a, xs, rfl, sq.any k.gh, fn G H _ _ k Gr.refl (.int _) (by rw [rpa_length rx]; exact hf)⟩
theorem qe_lenC {dc : DC} (hm : X.mg "len" = none) (ha : QC X W e dc) (hg : Gl X "len" := by rfl) (he : starEach [e] X.env = (false, eval e X.env) :: starEach [] X.env := by rfl) : QE X W (.Call (.Name "len" p) [e] [] pos) (dCBC lenC dc) := qe_callBC lenC_E call_len_seq hm boot_len ha hg (he := he)
def tupC (_ : Bool) (ds : List PyData) (Q : PyData → Prop) : Prop := Q (.tuple ds)
theorem tupC_E {K : PySem.W.Frag} : RCE K (rTupN K) tupC := by
  intro G0 H0 G H σ ρ a xs b ds Qd Q k sq rx hf fn
  refine ⟨a, xs, rfl, ?_⟩
  cases b with
  | false => exact .inl ⟨SqL.of sq, fin_tup k fn rx hf⟩
  | true => exact .inr ⟨sqT_mono k.gh (SqN.t sq), fn G H _ _ k Gr.refl (.tup sq rx) hf⟩
theorem qe_tuple {dc : DC} (hm : X.mg "tuple" = none) (ha : QC X W e dc) (hg : Gl X "tuple" := by rfl) (he : starEach [e] X.env = (false, eval e X.env) :: starEach [] X.env := by rfl) : QE X W (.Call (.Name "tuple" p) [e] [] pos) (dCBC tupC dc) := qe_callTC tupC_E call_tupN hm (by decide +kernel) ha hg (he := he)
def allC (b : Bool) (ds : List PyData) (Q : PyData → Prop) : Prop := ∃ bs : List Bool, b = false ∧ ds = bs.map .bool ∧ Q (.bool (bs.all id))
theorem allC_E {K : PySem.W.Frag} : RCE K (rAll K) allC := by
  intro G0 H0 G H σ ρ a xs b ds Qd Q k sq rx hf fn
  obtain ⟨bs, rfl, rfl, q⟩ := hf
  have e := rpa_ofBools rx
  subst e
  exact ⟨a, bs, rfl, SqL.of sq, fn G H _ _ k Gr.refl (.bl _) q⟩
theorem qe_all {dc : DC} (hc : X.calm = true) (hm : X.mg "all" = none) (ha : QC X W e dc) (hg : Gl X "all" := by rfl) (he : starEach [e] X.env = (false, eval e X.env) :: starEach [] X.env := by rfl) : QE X W (.Call (.Name "all" p) [e] [] pos) (dCBC allC dc) := qe_callBC allC_E (cr_all hc) hm (by decide +kernel) ha hg (he := he)
def tyN : PyData → String
  | .none => "NoneType"
  | .bool _ => "bool"
  | .int _ => "int"
  | .str _ => "str"
  | .list _ => "list"
  | .tuple _ => "tuple"
  | .dict _ => "dict"
def isT (T : String) (d : PyData) : Bool := tyN d == T || (tyN d == "bool" && T == "int")
def plainT (T : String) : Bool := ["int", "bool", "str", "list", "tuple"].contains T
theorem kit_isT {K : PySem.W.Frag} {T : String} {d : PyData} (h : plainT T = true) : PySem.W.kitOne K (.type (tyN d)) (.type T) = some (isT T d) := by
  have h' : T = "int" ∨ T = "bool" ∨ T = "str" ∨ T = "list" ∨ T = "tuple" := by simpa [plainT] using h
  rcases h' with rfl | rfl | rfl | rfl | rfl <;> cases d <;> exact kit_ty (by simp only [tyN, isT]; decide +kernel)
theorem rp_ty {K : PySem.W.Frag} {G H : Hp} {v : V} {d : PyData} (gh : Same G H) (r : Rp K G v d) (nd : ∀ kvs, d ≠ .dict kvs) : TyX K H v (.type (tyN d)) := by
  cases r with
  | non => exact .base .non
  | bl b => exact .base (.bl b)
  | int i => exact .base (.int i)
  | str s => exact .base (.str s)
  | lst h1 _ => exact .base (.lst (gh _ _ h1))
  | tup h1 _ =>
    rcases h1.t with (h1 | ⟨o, h1⟩) | ⟨o, its, n, h1, h2, _⟩
    · exact .base (.tup (gh _ _ h1))
    · exact .fTuple (gh _ _ h1)
    · exact .kTuple h1 h2
  | tpw h1 _ => exact absurd rfl (nd _)
  | dnk h1 _ => exact absurd rfl (nd _)
  | dik h1 _ => exact absurd rfl (nd _)
  | dit h1 _ => exact absurd rfl (nd _)
  | scr h1 => exact absurd rfl (nd _)
def isD1 : PyData → Bool
  | .dict _ => false
  | _ => true
def dIsi (T : String) (de : DE) : DE := fun ρ Q X => de ρ (fun d => isD1 d = true ∧ Q (.bool (isT T d))) X
theorem nd_of {d : PyData} (h : isD1 d = true) : ∀ kvs, d ≠ .dict kvs := fun kvs e => by subst e; cases h
theorem qe_isi {T : String} {t : Str} {pt : Pos} {de : DE} (hp : plainT T = true) (hm : X.mg "isinstance" = none) (hmt : X.mg t = none) (hv : bootBuiltins t = some (.type T)) (ha : QE X W e de) (hg : Gl X "isinstance" := by rfl) (hgt : Gl X t := by rfl) (hnt : t ≠ "__name__" := by decide) (hdt : (t == ("__debug__" : Str)) = false := by decide)
    (he : starEach [e, .Name t pt] X.env = (false, eval e X.env) :: starEach [.Name t pt] X.env := by rfl) (he2 : starEach [.Name t pt] X.env = (false, eval (.Name t pt) X.env) :: starEach [] X.env := by rfl) (hpl : (backTo pos (starEach [.Name t pt] X.env)).any (·.1) = false := by rfl) :
    QE X W (.Call (.Name "isinstance" p) [e, .Name t pt] [] pos) (dIsi T de) :=
  PE.sub (pe_callB call_isi hg hm (by decide +kernel) (pa_cons ha (pa_cons (pe_bltn (v := .ty T) hgt hmt hv rfl hnt hdt) pa_nil he2) he) (by decide) (by decide) he hpl) fun σ H Q h => by
  obtain ⟨G0, H0, G, ρ, Qd, Xd, k, h, fn, xo⟩ := h
  refine ⟨G0, H0, G, ρ, _, Xd, k, h, fun G1 H1 v d k1 g1 rv q => ?_, xo⟩
  exact ⟨v, .ty T, _, _, _, rfl, .ty T, rp_ty k1.gh rv (nd_of q.1), kit_isT hp, fn G1 H1 _ _ k1 g1 (.bl _) q.2⟩
def dIsi2 (T U : String) (de : DE) : DE := fun ρ Q X => de ρ (fun d => isD1 d = true ∧ Q (.bool (isT T d || isT U d))) X
theorem qe_isi2 {T U : String} {t u : Str} {pt pu ptt : Pos} {kk : Nat} {de : DE} (hp : plainT T = true) (hq : plainT U = true) (hm : X.mg "isinstance" = none) (hmt : X.mg t = none) (hv : bootBuiltins t = some (.type T)) (hmu : X.mg u = none) (hvu : bootBuiltins u = some (.type U)) (ha : QE X W e de) (hg : Gl X "isinstance" := by rfl)
    (hgt : Gl X t := by rfl) (hnt : t ≠ "__name__" := by decide) (hdt : (t == ("__debug__" : Str)) = false := by decide) (hgu : Gl X u := by rfl) (hnu : u ≠ "__name__" := by decide) (hdu : (u == ("__debug__" : Str)) = false := by decide)
    (he3 : starEach [.Name t pt, .Name u pu] X.env = (false, eval (.Name t pt) X.env) :: starEach [.Name u pu] X.env := by rfl) (he4 : starEach [.Name u pu] X.env = (false, eval (.Name u pu) X.env) :: starEach [] X.env := by rfl)
    (he : starEach [e, .Tuple [.Name t pt, .Name u pu] kk ptt] X.env = (false, eval e X.env) :: starEach [.Tuple [.Name t pt, .Name u pu] kk ptt] X.env := by rfl) (he2 : starEach [.Tuple [.Name t pt, .Name u pu] kk ptt] X.env = (false, eval (.Tuple [.Name t pt, .Name u pu] kk ptt) X.env) :: starEach [] X.env := by rfl) (hpl : (backTo pos (starEach [.Tuple [.Name t pt, .Name u pu] kk ptt] X.env)).any (·.1) = false := by rfl) :
    QE X W (.Call (.Name "isinstance" p) [e, .Tuple [.Name t pt, .Name u pu] kk ptt] [] pos) (dIsi2 T U de) :=
  PE.sub (pe_callB call_isiT hg hm (by decide +kernel) (pa_cons ha (pa_cons (pe_tup (pa_cons (pe_bltn (v := .ty T) hgt hmt hv rfl hnt hdt) (pa_cons (pe_bltn (v := .ty U) hgu hmu hvu rfl hnu hdu) pa_nil he4) he3)) pa_nil he2) he) (by decide) (by decide) he hpl) fun σ H Q h => by
  obtain ⟨G0, H0, G, ρ, Qd, Xd, k, h, fn, xo⟩ := h
  refine ⟨G0, H0, G, ρ, _, Xd, k, h, fun G1 H1 v d k1 g1 rv q => ?_, xo⟩
  refine ⟨(by show 2 ≤ sizeLine; decide), fun tp htp => ?_⟩
  refine ⟨v, tp, _, _, [.type T, .type U], isT T d || isT U d, rfl, upd_same, .cons (.ty T) (.cons (.ty U) .nil), rp_ty (same_mut k1.gh (k1.gh.free htp)) rv (nd_of q.1), ?_, fn G1 _ _ _ (k1.fresh htp) (g1.trans (Gr.fresh htp)) (.bl _) q.2⟩
  refine kitAny_cons (kit_isT hp) (fun hb => kitAny_cons (kit_isT hq) (fun hc => ?_) (fun hc => ?_)) (fun hb => ?_)
  · rw [hb, hc]; rfl
  · rw [hb, hc]; rfl
  · rw [hb]; rfl
def scrD (ns : List Int) : PyData := .dict [(.none, .list (ns.map PyData.int))]
theorem map_int_inj : ∀ {ns ms : List Int}, ns.map PyData.int = ms.map PyData.int → ns = ms
  | [], [], _ => rfl
  | [], _ :: _, h => by simp at h
  | _ :: _, [], h => by simp at h
  | n :: ns, m :: ms, h => by
    simp only [List.map_cons, List.cons.injEq, PyData.int.injEq] at h
    rw [h.1, map_int_inj h.2]
theorem rp_scr {K : PySem.W.Frag} {G : Hp} {v : V} {d : PyData} {ns : List Int} (h : Rp K G v d) (e : d = scrD ns) : ∃ a, v = .ref a ∧ SqL K G a (ns.map V.int) := by
  unfold scrD at e
  cases h with
  | dik a b =>
    injection e with e
    cases b with
    | nil => cases e
    | @cons kk _ _ _ _ c t =>
      injection e with e1 e2
      injection e1 with e3 e4
      cases kk <;> cases e3
  | dit a b =>
    injection e with e
    cases b with
    | nil => cases e
    | cons c t =>
      injection e with e1 e2
      injection e1 with e3 e4
      cases e3
  | scr hq =>
    injection e with e
    injection e with e1 e2
    injection e1 with e3 e4
    injection e4 with e5
    have := map_int_inj e5
    subst this
    exact ⟨_, rfl, hq⟩
  | _ => cases e
def dScr (i : Nat) : DE := fun ρ Q _ => ∃ ns : List Int, ρ[i]? = some (Slot.sh (scrD ns)) ∧ ns.length ≤ 63 ∧ Q (.list (ns.map .int))
theorem cut63 {xs : List V} (h : xs.length ≤ 63) : cutV xs none (some 63) = xs := by
  have e1 : HT.sIx xs.length 0 none = 0 := rfl
  have e2 : HT.sIx xs.length xs.length (some 63) = xs.length := by
    unfold HT.sIx
    simp
    omega
  unfold cutV
  rw [e1, e2, List.drop_zero, Nat.sub_zero, List.take_length]
theorem qe_scr (i : Nat) {y : Str} {p1 p2 : Pos} {j : Nat} (hN : X.N[i]? = some y := by rfl) (hv : Vis X.env.scope y := by first | exact Or.inl rfl | exact Or.inr (Or.inl rfl) | exact Or.inr (Or.inr rfl)) (hd : (y == ("__debug__" : Str)) = false := by decide) (hcd : (y == ("__classdict__" : Str)) = false := by decide) :
    QE X W (.Subscript (.Name y p1) (.Slice none (some (.Constant (.int 63) j p)) none p2) pos) (dScr i) := PE.sub (pe_slice sl_list (pe_var hN hv hd hcd) po_none (po_some pe_int)) fun σ H Q h => by
  obtain ⟨G0, H0, G, ρ, Qd, Xd, k, ⟨ns, hi, hl, h⟩, fn, xo⟩ := h
  obtain ⟨v, h1, h2⟩ := k.sh i _ hi
  obtain ⟨a, rfl, hq⟩ := rp_scr h2 rfl
  refine ⟨_, h1, 63, rfl, a, _, rfl, sqL_mono k.gh hq, ?_⟩
  rw [cut63 (by rw [List.length_map]; exact hl)]
  exact fin_lst k fn (rpa_ints ns) h
end
end WH
namespace WH
open PySem PySem.Spec L2
variable [TabC] [ObjB]
structure Bt (mg : Str → Option Value) : Prop where
  len_ : mg "len" = none
  range_ : mg "range" = none
  tuple_ : mg "tuple" = none
  list_ : mg "list" = none
  all_ : mg "all" = none
  any_ : mg "any" = none
  isinstance_ : mg "isinstance" = none
  int_ : mg "int" = none
  bool_ : mg "bool" = none
  str_ : mg "str" = none
  sorted_ : mg "sorted" = none
  enumerate_ : mg "enumerate" = none
  zip_ : mg "zip" = none
  max_ : mg "max" = none
  min_ : mg "min" = none
  set_ : mg "set" = none
  dict_ : mg "dict" = none
  sum_ : mg "sum" = none
  repr_ : mg "repr" = none
def GI (mg : Str → Option Value) (x : Str) (i : Int) : Prop := ∃ t, mg x = some (.int i t)
section
variable {X : Cx} {W : XW}
theorem qe_gi {x : Str} {i : Int} {pos : Pos} (h : GI X.mg x i) (hg : Gl X x := by rfl) (hd : (x == ("__debug__" : Str)) = false := by decide) : QE X W (.Name x pos) (dC (.int i)) := by
  obtain ⟨t, h⟩ := h
  exact qe_globI hg h hd
end
def FnP (K : PySem.W.Frag) (mg : Str → Option Value) (x : Str) (st : Stmt) : Prop := ∃ f fd, FunD K x x (defArgs st) (defBody st) (defScope st) [] [] f fd ∧ mg x = some (.ref f)
def Cl (P : Program) (w : World) (K : PySem.W.Frag) (mg : Str → Option Value) (base : Heap) (x : Str) (k : Nat) (C : Ct) : Prop :=
  ∃ ps f fd, mg x = some (.ref f) ∧ PySem.W.keepIn K (.ref f) = true ∧ L2.Binds K fd ps [] ∧ FnOk P w K mg base (L2N.CX P w) k f fd ps (PSp K mg C)
theorem cl_false {P : Program} {w : World} {K : PySem.W.Frag} {mg : Str → Option Value} {base : Heap} {x : Str} {k : Nat} {C : Ct} {st : Stmt} (ps : List Str) (F : FnP K mg x st) (hb : ∀ (kV doc pm : Value) (an : Option Addr) (cdv ct : Value) (us : List Value), us.length = ps.length → bindArgs (PySem.W.fnOf x x (defArgs st) (defBody st) (defScope st) .none kV doc pm an cdv ct) ⟨us, []⟩ = pure (ps.zip us)) (h : ∀ ds R X, C ds R X → False) : Cl P w K mg base x k C := by
  obtain ⟨f, fd, F, gm⟩ := F
  exact ⟨ps, f, fd, gm, F.kp, F.bindsN hb, ⟨fun vs H Q E ⟨G, ds, R, Xd, _, _, _, c, _⟩ => (h _ _ _ c).elim, fun A outer s H args us vs Q E _ _ _ _ ⟨G, ds, R, Xd, _, _, _, c, _⟩ => (h _ _ _ c).elim⟩⟩
section
variable {X : Cx} {W : XW} {k j : Nat} {C : Ct} {x : Str} {p pos : Pos} {e : Expr} {es : List Expr} {da : DA}
theorem qe_cl (c : Cl X.prog X.w X.K X.mg X.base x j C) (hr : Room k X.A) (hj : j ≤ k) (tk : L2N.Takes X W.2) (hw : W.1 = X.mg) (ha : QA X W (e :: es) da) (hg : Gl X x := by rfl)
    (hdb : (x == ("__debug__" : Str)) = false := by decide) (he : starEach (e :: es) X.env = (false, eval e X.env) :: starEach es X.env := by rfl) (hpl : (backTo pos (starEach es X.env)).any (·.1) = false := by rfl) : QE X W (.Call (.Name x p) (e :: es) [] pos) (dCall C da) := by
  obtain ⟨ps, f, fd, c1, c2, c3, c4⟩ := c
  exact qe_call c4 (hr.mono hj) c1 c2 c3 tk hw ha hg hdb he hpl
theorem qo_cl (c : Cl X.prog X.w X.K X.mg X.base x j C) (hr : Room k X.A) (hj : j ≤ k) (tk : L2N.Takes X W.2) (hw : W.1 = X.mg) (ha : QA X W (e :: es) da) (hg : Gl X x := by rfl)
    (hdb : (x == ("__debug__" : Str)) = false := by decide) (he : starEach (e :: es) X.env = (false, eval e X.env) :: starEach es X.env := by rfl) (hpl : (backTo pos (starEach es X.env)).any (·.1) = false := by rfl) : QO X W (.Call (.Name x p) (e :: es) [] pos) (dCallO C da) := by
  obtain ⟨ps, f, fd, c1, c2, c3, c4⟩ := c
  exact qo_call c4 (hr.mono hj) c1 c2 c3 tk hw ha hg hdb he hpl
end
end WH
namespace WH
open PySem PySem.Spec L2
@[simp] theorem s_dVar (i : Nat) (ρ : Sto) (Q : PyData → Prop) (u2 : XD) : dVar i ρ Q u2 ↔ (∃ d, ρ[i]? = some (Slot.sh d) ∧ Q d) := Iff.rfl
@[simp] theorem s_dC (d : PyData) (u0 : Sto) (Q : PyData → Prop) (u2 : XD) : dC d u0 Q u2 ↔ (Q d) := Iff.rfl
@[simp] theorem s_dVarC (i : Nat) (ρ : Sto) (Q : Bool → List PyData → Prop) (u2 : XD) : dVarC i ρ Q u2 ↔ ((∃ b ds, ρ[i]? = some (Slot.sh (dat b ds)) ∧ Q b ds) ∨ ∃ ds, ρ[i]? = some (Slot.ow (.lst ds)) ∧ Q false ds) := Iff.rfl
@[simp] theorem s_dTst (de : DE) (ρ : Sto) (Q : Bool → Prop) (X : XD) : dTst de ρ Q X ↔ (de ρ (fun d => asB d Q) X) := Iff.rfl
@[simp] theorem s_dOr (d e : DT) (ρ : Sto) (Q : Bool → Prop) (X : XD) : dOr d e ρ Q X ↔ (d ρ (fun b => if b = true then Q true else e ρ Q X) X) := Iff.rfl
@[simp] theorem s_dNot (d : DT) (ρ : Sto) (Q : Bool → Prop) (X : XD) : dNot d ρ Q X ↔ (d ρ (fun b => Q (!b)) X) := Iff.rfl
@[simp] theorem s_dAndV (d e : DE) (ρ : Sto) (Q : PyData → Prop) (X : XD) : dAndV d e ρ Q X ↔ (d ρ (fun x => asB x fun b => if b = true then e ρ Q X else Q (.bool false)) X) := Iff.rfl
@[simp] theorem s_dNotV (d : DE) (ρ : Sto) (Q : PyData → Prop) (X : XD) : dNotV d ρ Q X ↔ (d ρ (fun x => asB x fun b => Q (.bool (!b))) X) := Iff.rfl
@[simp] theorem s_dIf (t : DT) (a b : DE) (ρ : Sto) (Q : PyData → Prop) (X : XD) : dIf t a b ρ Q X ↔ (t ρ (fun c => if c = true then a ρ Q X else b ρ Q X) X) := Iff.rfl
@[simp] theorem s_dNil (u0 : Sto) (Q : List PyData → Prop) (u2 : XD) : dNil  u0 Q u2 ↔ (Q []) := Iff.rfl
@[simp] theorem s_dCons (d : DE) (e : DA) (ρ : Sto) (Q : List PyData → Prop) (X : XD) : dCons d e ρ Q X ↔ (d ρ (fun x => e ρ (fun xs => Q (x :: xs)) X) X) := Iff.rfl
@[simp] theorem s_dTup (da : DA) (ρ : Sto) (Q : PyData → Prop) (X : XD) : dTup da ρ Q X ↔ (da ρ (fun ds => ds.length ≤ 100000 ∧ Q (.tuple ds)) X) := Iff.rfl
@[simp] theorem s_dLst (da : DA) (ρ : Sto) (Q : OD → Prop) (X : XD) : dLst da ρ Q X ↔ (da ρ (fun ds => ds.length ≤ 100000 ∧ Q (.lst ds)) X) := Iff.rfl
@[simp] theorem s_dOfO (dd : DO) (ρ : Sto) (Q : PyData → Prop) (X : XD) : dOfO dd ρ Q X ↔ (dd ρ (fun o => ∃ ds, o = .lst ds ∧ Q (.list ds)) X) := Iff.rfl
@[simp] theorem s_dCofO (dd : DO) (ρ : Sto) (Q : Bool → List PyData → Prop) (X : XD) : dCofO dd ρ Q X ↔ (dd ρ (fun o => ∃ ds, o = .lst ds ∧ Q false ds) X) := Iff.rfl
@[simp] theorem s_dCofE (de : DE) (ρ : Sto) (Q : Bool → List PyData → Prop) (X : XD) : dCofE de ρ Q X ↔ (de ρ (fun d => ∃ b ds, d = dat b ds ∧ Q b ds) X) := Iff.rfl
@[simp] theorem s_dIx (dc : DC) (di : DE) (ρ : Sto) (Q : PyData → Prop) (X : XD) : dIx dc di ρ Q X ↔ (dc ρ (fun _ ds => di ρ (fun i => ixD ds i Q) X) X) := Iff.rfl
@[simp] theorem s_dNeg (da : DE) (ρ : Sto) (Q : PyData → Prop) (X : XD) : dNeg da ρ Q X ↔ (da ρ (fun d => ∃ i, d = .int i ∧ Q (.int (-i))) X) := Iff.rfl
@[simp] theorem s_dIn (neg : Bool) (da : DE) (dc : DC) (ρ : Sto) (Q : PyData → Prop) (X : XD) : dIn neg da dc ρ Q X ↔ (da ρ (fun x => dc ρ (fun _ ds => flatD x = true ∧ ds.all flatD = true ∧ Q (.bool (if neg then !inD x ds else inD x ds))) X) X) := Iff.rfl
@[simp] theorem s_dNo (u0 : Sto) (Q : Option Int → Prop) (u2 : XD) : dNo  u0 Q u2 ↔ (Q none) := Iff.rfl
@[simp] theorem s_dSome (da : DE) (ρ : Sto) (Q : Option Int → Prop) (X : XD) : dSome da ρ Q X ↔ (da ρ (fun d => ∃ i, d = .int i ∧ Q (some i)) X) := Iff.rfl
@[simp] theorem s_dSl (dc : DC) (lo hi : DP) (ρ : Sto) (Q : PyData → Prop) (X : XD) : dSl dc lo hi ρ Q X ↔ (dc ρ (fun b ds => lo ρ (fun l => hi ρ (fun h => Q (dat b (cutD ds l h))) X) X) X) := Iff.rfl
@[simp] theorem s_dNext (D : DEnds) (ρ : Sto) : dNext  D ρ ↔ (D.nx ρ) := Iff.rfl
@[simp] theorem s_dSeq (d e : DS) (D : DEnds) (ρ : Sto) : dSeq d e D ρ ↔ (d { D with nx := e D } ρ) := Iff.rfl
@[simp] theorem s_dAsg (i : Nat) (de : DE) (D : DEnds) (ρ : Sto) : dAsg i de D ρ ↔ (de ρ (fun d => D.nx (ρ.set i (.sh d))) (D.xd ρ)) := Iff.rfl
@[simp] theorem s_dAsgO (i : Nat) (dd : DO) (D : DEnds) (ρ : Sto) : dAsgO i dd D ρ ↔ (dd ρ (fun o => D.nx (ρ.set i (.ow o))) (D.xd ρ)) := Iff.rfl
@[simp] theorem s_gN (i : Nat) (d : PyData) (ρ : Sto) (Q : Sto → Prop) : gN i d ρ Q ↔ (Q (ρ.set i (.sh d))) := Iff.rfl
@[simp] theorem s_gsNil (ρ : Sto) (Q : Sto → Prop) : gsNil [] ρ Q ↔ Q ρ := by simp [gsNil]
@[simp] theorem s_gsCons (g : DG) (gs : DGs) (d : PyData) (r : List PyData) (ρ : Sto) (Q : Sto → Prop) : gsCons g gs (d :: r) ρ Q ↔ g d ρ (fun ρ' => gs r ρ' Q) := by
  constructor
  · rintro ⟨d', r', h, q⟩
    cases h
    exact q
  · exact fun q => ⟨d, r, rfl, q⟩
@[simp] theorem s_gT (n : Nat) (gs : DGs) (ds : List PyData) (ρ : Sto) (Q : Sto → Prop) : gT n gs (.tuple ds) ρ Q ↔ (ds.length = n ∧ gs ds ρ Q) := by
  constructor
  · rintro ⟨d', h | h, q⟩
    · cases h
      exact q
    · cases h
  · exact fun q => ⟨ds, .inl rfl, q⟩
@[simp] theorem s_gTw (n : Nat) (gs : DGs) (ds : List PyData) (ρ : Sto) (Q : Sto → Prop) : gT n gs (wk ds) ρ Q ↔ (ds.length = n ∧ gs ds ρ Q) := by
  constructor
  · rintro ⟨d', h | h, q⟩
    · cases h
    · cases h
      exact q
  · exact fun q => ⟨ds, .inr rfl, q⟩
@[simp] theorem s_dRet (de : DE) (D : DEnds) (ρ : Sto) : dRet de D ρ ↔ (de ρ (fun d => D.rt (.sh d)) (D.xd ρ)) := Iff.rfl
@[simp] theorem s_dRetO (dd : DO) (D : DEnds) (ρ : Sto) : dRetO dd D ρ ↔ (dd ρ (fun o => D.rt (.ow o)) (D.xd ρ)) := Iff.rfl
@[simp] theorem s_dDrop (de : DE) (D : DEnds) (ρ : Sto) : dDrop de D ρ ↔ (de ρ (fun _ => D.nx ρ) (D.xd ρ)) := Iff.rfl
@[simp] theorem s_dIfS (t : DT) (a b : DS) (D : DEnds) (ρ : Sto) : dIfS t a b D ρ ↔ (t ρ (fun c => if c = true then a D ρ else b D ρ) (D.xd ρ)) := Iff.rfl
@[simp] theorem s_dApp (i : Nat) (de : DE) (D : DEnds) (ρ : Sto) : dApp i de D ρ ↔ (∃ ds, ρ[i]? = some (Slot.ow (.lst ds)) ∧ de ρ (fun d => ds.length < 100000 ∧ D.nx (ρ.set i (.ow (.lst (ds ++ [d]))))) (D.xd ρ)) := Iff.rfl
@[simp] theorem s_dIt (de : DE) (ρ : Sto) (Q : List PyData → Prop) (X : XD) : dIt de ρ Q X ↔ (de ρ (fun d => ∃ b ds, d = dat b ds ∧ Q ds) X) := Iff.rfl
@[simp] theorem s_dRng1 (de : DE) (ρ : Sto) (Q : List PyData → Prop) (X : XD) : dRng1 de ρ Q X ↔ (de ρ (fun d => ∃ n, d = .int n ∧ n ≤ 100000 ∧ -100000 ≤ n ∧ Q (rngD 0 n.toNat)) X) := Iff.rfl
@[simp] theorem s_dFor (di : DI) (dg : DG) (body : DS) (D : DEnds) (ρ : Sto) : dFor di dg body D ρ ↔ (di ρ (fun ds => forW dg body D ds ρ) (D.xd ρ)) := Iff.rfl
@[simp] theorem s_dLc (vs : List Nat) (di : DI) (dg : DG) (dt : DT) (de : DE) (ρ : Sto) (Q : OD → Prop) (X : XD) : dLc vs di dg dt de ρ Q X ↔ (di ρ (fun ds => lcW dg dt de (wipeD ρ vs) (fun out => Q (.lst out)) ds []) X) := Iff.rfl
@[simp] theorem s_dYes (u0 : Sto) (Q : Bool → Prop) (u2 : XD) : dYes  u0 Q u2 ↔ (Q true) := Iff.rfl
@[simp] theorem s_dCall (C : Ct) (da : DA) (ρ : Sto) (Q : PyData → Prop) (X : XD) : dCall C da ρ Q X ↔ (da ρ (fun ds => C ds (fun s => ∃ d, slotD s = some d ∧ Q d) X) X) := Iff.rfl
@[simp] theorem s_dCallO (C : Ct) (da : DA) (ρ : Sto) (Q : OD → Prop) (X : XD) : dCallO C da ρ Q X ↔ (da ρ (fun ds => C ds (fun s => ∃ o, s = .ow o ∧ Q o) X) X) := Iff.rfl
@[simp] theorem s_dIsi (T : String) (de : DE) (ρ : Sto) (Q : PyData → Prop) (X : XD) : dIsi T de ρ Q X ↔ (de ρ (fun d => isD1 d = true ∧ Q (.bool (isT T d))) X) := Iff.rfl
@[simp] theorem s_dIsi2 (T U : String) (de : DE) (ρ : Sto) (Q : PyData → Prop) (X : XD) : dIsi2 T U de ρ Q X ↔ (de ρ (fun d => isD1 d = true ∧ Q (.bool (isT T d || isT U d))) X) := Iff.rfl
@[simp] theorem s_dScr (i : Nat) (ρ : Sto) (Q : PyData → Prop) (u2 : XD) : dScr i ρ Q u2 ↔ (∃ ns : List Int, ρ[i]? = some (Slot.sh (scrD ns)) ∧ ns.length ≤ 63 ∧ Q (.list (ns.map .int))) := Iff.rfl
@[simp] theorem s_d2 (f : PyData → PyData → (PyData → Prop) → Prop) (da db : DE) (ρ : Sto) (Q : PyData → Prop) (X : XD) : d2 f da db ρ Q X ↔ da ρ (fun x => db ρ (fun y => f x y Q) X) X := Iff.rfl
@[simp] theorem s_dChain (f f' : PyData → PyData → (PyData → Prop) → Prop) (da db dc : DE) (ρ : Sto) (Q : PyData → Prop) (X : XD) : dChain f f' da db dc ρ Q X ↔ da ρ (fun x => db ρ (fun y => f x y fun z => asB z fun k => if k = true then dc ρ (fun u => f' y u Q) X else Q (.bool false)) X) X := Iff.rfl
@[simp] theorem s_dCB (f : List PyData → (PyData → Prop) → Prop) (da : DA) (ρ : Sto) (Q : PyData → Prop) (X : XD) : dCB f da ρ Q X ↔ da ρ (fun ds => f ds Q) X := Iff.rfl
@[simp] theorem s_dCBC (f : Bool → List PyData → (PyData → Prop) → Prop) (dc : DC) (ρ : Sto) (Q : PyData → Prop) (X : XD) : dCBC f dc ρ Q X ↔ dc ρ (fun b ds => f b ds Q) X := Iff.rfl
@[simp] theorem s_asB (b : Bool) (Q : Bool → Prop) : asB (.bool b) Q ↔ Q b := by simp only [asB, PyData.bool.injEq, exists_eq_left']
@[simp] theorem isD1_int (i : Int) : isD1 (.int i) = true := rfl
@[simp] theorem isD1_str (i : Str) : isD1 (.str i) = true := rfl
@[simp] theorem isD1_bool (i : Bool) : isD1 (.bool i) = true := rfl
@[simp] theorem isD1_list (i : List PyData) : isD1 (.list i) = true := rfl
@[simp] theorem isD1_tuple (i : List PyData) : isD1 (.tuple i) = true := rfl
@[simp] theorem isD1_none : isD1 .none = true := rfl
@[simp] theorem scrD_inj (ns ms : List Int) : scrD ns = scrD ms ↔ ns = ms := by
  constructor
  · intro h
    unfold scrD at h
    injection h with h
    injection h with h1 h2
    injection h1 with h3 h4
    injection h4 with h5
    exact map_int_inj h5
  · rintro rfl
    rfl
@[simp] theorem s_forWn (dg : DG) (body : DS) (D : DEnds) (ρ : Sto) : forW dg body D [] ρ ↔ D.nx ρ := Iff.rfl
@[simp] theorem s_lcWn (dg : DG) (dt : DT) (de : DE) (ρ : Sto) (Q : List PyData → Prop) (acc : List PyData) : lcW dg dt de ρ Q [] acc ↔ Q acc := Iff.rfl
@[simp] theorem s_iI (g : Int → Int → PyData) (i j : Int) (Q : PyData → Prop) : iI g (.int i) (.int j) Q ↔ Q (g i j) := Iff.rfl
@[simp] theorem s_iC (C : Int → Int → Prop) (g : Int → Int → PyData) (i j : Int) (Q : PyData → Prop) : iC C g (.int i) (.int j) Q ↔ (C i j ∧ Q (g i j)) := Iff.rfl
@[simp] theorem s_sub (i j : Int) (Q : PyData → Prop) : subD (.int i) (.int j) Q ↔ Q (.int (i - j)) := Iff.rfl
@[simp] theorem s_add (i j : Int) (Q : PyData → Prop) : addD (.int i) (.int j) Q ↔ Q (.int (i + j)) := Iff.rfl
@[simp] theorem s_addS (a b : Str) (Q : PyData → Prop) : addD (.str a) (.str b) Q ↔ (a.length + b.length ≤ 100000 ∧ Q (.str (a ++ b))) := Iff.rfl
@[simp] theorem s_addT (xs ys : List PyData) (Q : PyData → Prop) : addD (.tuple xs) (.tuple ys) Q ↔ (xs.length + ys.length ≤ 100000 ∧ Q (.tuple (xs ++ ys))) := Iff.rfl
@[simp] theorem s_addL (xs ys : List PyData) (Q : PyData → Prop) : addD (.list xs) (.list ys) Q ↔ (xs.length + ys.length ≤ 100000 ∧ Q (.list (xs ++ ys))) := Iff.rfl
@[simp] theorem s_mul (i j : Int) (Q : PyData → Prop) : mulD (.int i) (.int j) Q ↔ (((-(2 ^ 64) < i ∧ i < 2 ^ 64) ∨ (-(2 ^ 64) < j ∧ j < 2 ^ 64)) ∧ Q (.int (i * j))) := Iff.rfl
@[simp] theorem s_mulT (xs : List PyData) (k : Int) (Q : PyData → Prop) : mulD (.tuple xs) (.int k) Q ↔ (xs ≠ [] ∧ 2 ≤ k ∧ k ≤ 1000 ∧ xs.length ≤ 1000 ∧ Q (.tuple (List.replicate k.toNat xs).flatten)) := Iff.rfl
@[simp] theorem s_mulL (xs : List PyData) (k : Int) (Q : PyData → Prop) : mulD (.list xs) (.int k) Q ↔ (0 ≤ k ∧ k ≤ 1000 ∧ xs.length ≤ 100 ∧ Q (.list (List.replicate k.toNat xs).flatten)) := Iff.rfl
@[simp] theorem s_mod (i j : Int) (Q : PyData → Prop) : modD (.int i) (.int j) Q ↔ (0 < j ∧ Q (.int (i % j))) := Iff.rfl
@[simp] theorem s_fdiv (i j : Int) (Q : PyData → Prop) : fdivD (.int i) (.int j) Q ↔ ((0 < j ∧ j < 1073741824) ∧ Q (.int (i / j))) := Iff.rfl
@[simp] theorem s_pow (i j : Int) (Q : PyData → Prop) : powD (.int i) (.int j) Q ↔ ((0 ≤ j ∧ j ≤ 1000000 ∧ i.natAbs < 2 ^ 64) ∧ Q (.int (i ^ j.toNat))) := Iff.rfl
@[simp] theorem s_lt (i j : Int) (Q : PyData → Prop) : ltD (.int i) (.int j) Q ↔ Q (.bool (decide (i < j))) := Iff.rfl
@[simp] theorem s_le (i j : Int) (Q : PyData → Prop) : leD (.int i) (.int j) Q ↔ Q (.bool (decide (i ≤ j))) := Iff.rfl
@[simp] theorem s_gt (i j : Int) (Q : PyData → Prop) : gtD (.int i) (.int j) Q ↔ Q (.bool (decide (j < i))) := Iff.rfl
@[simp] theorem s_ge (i j : Int) (Q : PyData → Prop) : geD (.int i) (.int j) Q ↔ Q (.bool (decide (j ≤ i))) := Iff.rfl
@[simp] theorem sh_int (i : Int) : SeqAt.shaped (.int i) = true := rfl
@[simp] theorem sh_bool (i : Bool) : SeqAt.shaped (.bool i) = true := rfl
@[simp] theorem sh_str (i : Str) : SeqAt.shaped (.str i) = PyData.strOk i := by simp [SeqAt.shaped, PyData.canLay0, PyData.depth]
@[simp] theorem sh_none : SeqAt.shaped .none = true := rfl
@[simp] theorem eqv_int (i j : Int) : PyData.eqv (.int i) (.int j) = (i == j) := by simp [PyData.eqv]
@[simp] theorem eqv_str (i j : Str) : PyData.eqv (.str i) (.str j) = (i == j) := by simp [PyData.eqv]
@[simp] theorem eqv_bool (i j : Bool) : PyData.eqv (.bool i) (.bool j) = (i == j) := by simp [PyData.eqv]
@[simp] theorem s_eq (d e : PyData) (Q : PyData → Prop) : eqD d e Q ↔ (SeqAt.shaped d = true ∧ SeqAt.shaped e = true ∧ Q (.bool (PyData.eqv d e))) := Iff.rfl
@[simp] theorem s_ne (d e : PyData) (Q : PyData → Prop) : neD d e Q ↔ (SeqAt.shaped d = true ∧ SeqAt.shaped e = true ∧ Q (.bool (!PyData.eqv d e))) := Iff.rfl
@[simp] theorem s_is (d e : PyData) (Q : PyData → Prop) : isD d e Q ↔ (e = .none ∧ Q (.bool (isNo d))) := Iff.rfl
@[simp] theorem isNo_int (i : Int) : isNo (.int i) = false := rfl
@[simp] theorem isNo_str (i : Str) : isNo (.str i) = false := rfl
@[simp] theorem isNo_bool (i : Bool) : isNo (.bool i) = false := rfl
@[simp] theorem isNo_list (i : List PyData) : isNo (.list i) = false := rfl
@[simp] theorem isNo_tuple (i : List PyData) : isNo (.tuple i) = false := rfl
@[simp] theorem isNo_none : isNo .none = true := rfl
@[simp] theorem s_ixD (ds : List PyData) (i : Int) (Q : PyData → Prop) : ixD ds (.int i) Q ↔ ∃ d, atI ds i = some d ∧ Q d := by
  constructor
  · rintro ⟨n, d, h, h1, h2⟩
    cases h
    exact ⟨d, h1, h2⟩
  · rintro ⟨d, h1, h2⟩
    exact ⟨i, d, rfl, h1, h2⟩
@[simp] theorem s_lenS (s : Str) (Q : PyData → Prop) : lenD [.str s] Q ↔ (s.length ≤ 100000 ∧ Q (.int s.length)) := Iff.rfl
@[simp] theorem s_lenL (s : List PyData) (Q : PyData → Prop) : lenD [.list s] Q ↔ Q (.int s.length) := Iff.rfl
@[simp] theorem s_lenT (s : List PyData) (Q : PyData → Prop) : lenD [.tuple s] Q ↔ Q (.int s.length) := Iff.rfl
@[simp] theorem s_lenC (b : Bool) (s : List PyData) (Q : PyData → Prop) : lenC b s Q ↔ Q (.int s.length) := Iff.rfl
@[simp] theorem s_tupC (b : Bool) (s : List PyData) (Q : PyData → Prop) : tupC b s Q ↔ Q (.tuple s) := Iff.rfl
@[simp] theorem datL (b : Bool) (xs ds : List PyData) : PyData.list xs = dat b ds ↔ (b = false ∧ ds = xs) := by
  cases b <;> simp [dat, eq_comm]
@[simp] theorem datT (b : Bool) (xs ds : List PyData) : PyData.tuple xs = dat b ds ↔ (b = true ∧ ds = xs) := by
  cases b <;> simp [dat, eq_comm]
@[simp] theorem dat_true (xs : List PyData) : dat true xs = .tuple xs := rfl
@[simp] theorem dat_false (xs : List PyData) : dat false xs = .list xs := rfl
@[simp] theorem slotD_sh (d : PyData) : slotD (.sh d) = some d := rfl
@[simp] theorem slotD_ow (ds : List PyData) : slotD (.ow (.lst ds)) = some (.list ds) := rfl
@[simp] theorem wipeD_nil (ρ : Sto) : wipeD ρ [] = ρ := rfl
@[simp] theorem wipeD_cons (ρ : Sto) (v : Nat) (vs : List Nat) : wipeD ρ (v :: vs) = (wipeD ρ vs).set v .no := rfl
@[simp] theorem atI_nat {α : Type} (xs : List α) (n : Nat) : atI xs (n : Int) = xs[n]? := by
  unfold atI ixN
  by_cases h : n < xs.length
  · simp [h]
  · simp [h]
@[simp] theorem atI_2 {α : Type} (xs : List α) : atI xs 2 = xs[2]? := atI_nat xs 2
@[simp] theorem atI_3 {α : Type} (xs : List α) : atI xs 3 = xs[3]? := atI_nat xs 3
@[simp] theorem atI_0 {α : Type} (xs : List α) : atI xs 0 = xs[0]? := atI_nat xs 0
@[simp] theorem atI_1 {α : Type} (xs : List α) : atI xs 1 = xs[1]? := atI_nat xs 1
@[simp] theorem rngD_zero (lo : Int) : rngD lo 0 = [] := rfl
@[simp] theorem rngD_len (lo : Int) (n : Nat) : (rngD lo n).length = n := by simp [rngD]
theorem rngD_get {lo : Int} {n i : Nat} {d : PyData} (h : (rngD lo n)[i]? = some d) : i < n ∧ d = .int (lo + (i : Int)) := by
  have hi : i < n := by
    have := (List.getElem?_eq_some_iff.mp h).1
    simpa using this
  refine ⟨hi, ?_⟩
  simp [rngD, hi] at h
  exact h.symm
theorem forW_inv {dg : DG} {body : DS} {D : DEnds} {ds : List PyData} {ρ : Sto} (I : Nat → Sto → Prop) (h0 : I 0 ρ) (hd : ∀ ρ', I ds.length ρ' → D.nx ρ')
    (hs : ∀ (n : Nat) (d : PyData) (ρ' : Sto) (K : Sto → Prop), ds[n]? = some d → I n ρ' → (∀ ρ2, I (n + 1) ρ2 → K ρ2) → dg d ρ' fun ρ2 => body { D with nx := K, ct := K, bk := D.nx } ρ2) : forW dg body D ds ρ := by
  have key : ∀ (m n : Nat), n + m = ds.length → ∀ ρ', I n ρ' → forW dg body D (ds.drop n) ρ' := by
    intro m
    induction m with
    | zero =>
      intro n hn ρ' hI
      have e : n = ds.length := by omega
      subst e
      rw [List.drop_length]
      exact hd ρ' hI
    | succ m ih =>
      intro n hn ρ' hI
      have hlt : n < ds.length := by omega
      rw [List.drop_eq_getElem_cons hlt]
      exact hs n _ ρ' _ (by simp [hlt]) hI fun ρ2 h2 => ih (n + 1) (by omega) ρ2 h2
  have := key ds.length 0 (by omega) ρ h0
  rwa [List.drop_zero] at this
theorem while_inv {t : DT} {body : DS} {D : DEnds} {ρ : Sto} (I : Nat → Sto → Prop) (m0 : Nat) (h0 : I m0 ρ)
    (hs : ∀ (m : Nat) (ρ' : Sto) (K : Sto → Prop), I m ρ' → (∀ m' ρ2, m' < m → I m' ρ2 → K ρ2) → t ρ' (fun b => if b = true then body { D with nx := K, ct := K, bk := D.nx } ρ' else D.nx ρ') (D.xd ρ')) : dWhile t body D ρ :=
  ⟨I, ⟨m0, h0⟩, fun m ρ' hi => hs m ρ' _ hi fun m' ρ2 h1 h2 => ⟨m', h1, h2⟩⟩
theorem ints_get {ns : List Int} {n : Nat} {d : PyData} (h : (ns.map PyData.int)[n]? = some d) : ∃ z, ns[n]? = some z ∧ d = .int z := by
  rw [List.getElem?_map] at h
  cases q : ns[n]? with
  | none => rw [q] at h; cases h
  | some z => rw [q] at h; exact ⟨z, rfl, (Option.some.inj h).symm⟩
theorem cutD_ints (ns : List Int) (lo hi : Option Int) : cutD (ns.map PyData.int) lo hi = ((ns.drop (HT.sIx ns.length 0 lo)).take (HT.sIx ns.length ns.length hi - HT.sIx ns.length 0 lo)).map PyData.int := by
  unfold cutD
  rw [List.length_map, List.map_take, List.map_drop]
theorem lc_rel {dg : DG} {de : DE} {ρ : Sto} {Q : List PyData → Prop} {ds : List PyData} (P : Nat → PyData → PyData → Prop) (hz : ds.length ≤ 50000)
    (h : ∀ (i : Nat) (d : PyData), ds[i]? = some d → ∀ K : PyData → Prop, (∀ x, P i d x → K x) → dg d ρ fun ρ2 => de ρ2 K noX)
    (q : ∀ out : List PyData, out.length = ds.length → (∀ (i : Nat) (d x : PyData), ds[i]? = some d → out[i]? = some x → P i d x) → Q out) : lcW dg dYes de ρ Q ds [] := by
  have key : ∀ (m n : Nat) (acc : List PyData), n + m = ds.length → acc.length = n → (∀ (i : Nat) (d x : PyData), ds[i]? = some d → acc[i]? = some x → P i d x) → lcW dg dYes de ρ Q (ds.drop n) acc := by
    intro m
    induction m with
    | zero =>
      intro n acc hn hl hp
      have e : ds.drop n = [] := List.drop_eq_nil_of_le (by omega)
      rw [e]
      exact q acc (by omega) hp
    | succ m ih =>
      intro n acc hn hl hp
      have hlt : n < ds.length := by omega
      rw [List.drop_eq_getElem_cons hlt]
      have e : (fun ρ2 => dYes ρ2 (fun b => if b = true then de ρ2 (fun x => acc.length < 100000 ∧ lcW dg dYes de ρ Q (ds.drop (n + 1)) (acc ++ [x])) noX else lcW dg dYes de ρ Q (ds.drop (n + 1)) acc) noX) = fun ρ2 => de ρ2 (fun x => acc.length < 100000 ∧ lcW dg dYes de ρ Q (ds.drop (n + 1)) (acc ++ [x])) noX := by
        funext ρ2
        rfl
      show dg ds[n] ρ fun ρ2 => dYes ρ2 _ noX
      rw [e]
      refine h n _ (by simp [hlt]) _ fun x hx => ⟨by omega, ih (n + 1) _ (by omega) (by simp [hl]) fun i d y hd hy => ?_⟩
      rw [List.getElem?_append] at hy
      split at hy
      · exact hp i d y hd hy
      · rename_i hi
        have hi2 : i - acc.length = 0 := by
          have := (List.getElem?_eq_some_iff.mp hy).1
          simp at this
          omega
        rw [hi2] at hy
        have e1 : i = n := by omega
        subst e1
        simp at hy
        subst hy
        simp [hlt] at hd
        subst hd
        exact hx
  have := key ds.length 0 [] (by omega) rfl (fun i d x _ hx => by simp at hx)
  rwa [List.drop_zero] at this
theorem lc_mapM {α : Type} {dg : DG} {de : DE} {ρ : Sto} {Q : List PyData → Prop} {g : α → PyData} {xs : List α} (f : α → PyData) (hz : xs.length ≤ 50000)
    (h : ∀ x ∈ xs, ∀ K : PyData → Prop, K (f x) → dg (g x) ρ fun ρ2 => de ρ2 K noX) (q : Q (xs.map f)) : lcW dg dYes de ρ Q (xs.map g) [] := by
  have key : ∀ (m n : Nat), n + m = xs.length → lcW dg dYes de ρ Q ((xs.map g).drop n) ((xs.map f).take n) := by
    intro m
    induction m with
    | zero =>
      intro n hn
      have e : (xs.map g).drop n = [] := List.drop_eq_nil_of_le (by simp; omega)
      have e2 : (xs.map f).take n = xs.map f := List.take_of_length_le (by simp; omega)
      rw [e, e2]
      exact q
    | succ m ih =>
      intro n hn
      have hlt : n < (xs.map g).length := by simp; omega
      have hlx : n < xs.length := by omega
      rw [List.drop_eq_getElem_cons hlt]
      have e : (fun ρ2 => dYes ρ2 (fun b => if b = true then de ρ2 (fun x => ((xs.map f).take n).length < 100000 ∧ lcW dg dYes de ρ Q ((xs.map g).drop (n + 1)) ((xs.map f).take n ++ [x])) noX else lcW dg dYes de ρ Q ((xs.map g).drop (n + 1)) ((xs.map f).take n)) noX) = fun ρ2 => de ρ2 (fun x => ((xs.map f).take n).length < 100000 ∧ lcW dg dYes de ρ Q ((xs.map g).drop (n + 1)) ((xs.map f).take n ++ [x])) noX := by
        funext ρ2
        rfl
      show dg (xs.map g)[n] ρ fun ρ2 => dYes ρ2 _ noX
      rw [e]
      rw [List.getElem_map]
      refine h _ (List.getElem_mem hlx) _ ⟨by simp; omega, ?_⟩
      have e3 : (xs.map f).take n ++ [f xs[n]] = (xs.map f).take (n + 1) := by
        rw [List.take_succ_eq_append_getElem (by simp; omega), List.getElem_map]
      rw [e3]
      exact ih (n + 1) (by omega)
  have := key xs.length 0 (by omega)
  rwa [List.drop_zero, List.take_zero] at this
theorem lc_filM {α : Type} {dg : DG} {dt : DT} {de : DE} {ρ : Sto} {Q : List PyData → Prop} {g : α → PyData} {xs : List α} (t : α → Bool) (f : α → PyData) (hz : xs.length ≤ 50000)
    (h : ∀ x ∈ xs, ∀ (K1 : PyData → Prop) (K0 : Prop), (t x = true → K1 (f x)) → (t x = false → K0) → dg (g x) ρ fun ρ2 => dt ρ2 (fun b => if b = true then de ρ2 K1 noX else K0) noX) (q : Q ((xs.filter t).map f)) : lcW dg dt de ρ Q (xs.map g) [] := by
  have key : ∀ (ys : List α) (acc : List PyData), (∀ y ∈ ys, y ∈ xs) → acc.length + ys.length ≤ 50000 → Q (acc ++ (ys.filter t).map f) → lcW dg dt de ρ Q (ys.map g) acc := by
    intro ys
    induction ys with
    | nil => intro acc _ _ q; simpa using q
    | cons y ys ih =>
      intro acc hm hz q
      simp only [List.length_cons] at hz
      refine h y (hm y List.mem_cons_self) _ _ (fun ht => ⟨by omega, ih _ (fun z hz => hm z (List.mem_cons_of_mem _ hz)) (by simp; omega) ?_⟩) (fun ht => ih _ (fun z hz => hm z (List.mem_cons_of_mem _ hz)) (by omega) ?_)
      · rw [List.filter_cons, if_pos ht] at q
        simpa using q
      · rw [List.filter_cons, if_neg (by rw [ht]; exact Bool.false_ne_true)] at q
        exact q
  exact key xs [] (fun _ h => h) (by simpa using hz) (by simpa using q)
@[simp] theorem isT_int_none : isT "int" (.none) = false := by simp only [isT, tyN]; decide +kernel
@[simp] theorem isT_int_int (x) : isT "int" (.int x) = true := by simp only [isT, tyN]; decide +kernel
@[simp] theorem isT_int_bool (x) : isT "int" (.bool x) = true := by simp only [isT, tyN]; decide +kernel
@[simp] theorem isT_int_str (x) : isT "int" (.str x) = false := by simp only [isT, tyN]; decide +kernel
@[simp] theorem isT_int_list (x) : isT "int" (.list x) = false := by simp only [isT, tyN]; decide +kernel
@[simp] theorem isT_int_tuple (x) : isT "int" (.tuple x) = false := by simp only [isT, tyN]; decide +kernel
@[simp] theorem isT_bool_none : isT "bool" (.none) = false := by simp only [isT, tyN]; decide +kernel
@[simp] theorem isT_bool_int (x) : isT "bool" (.int x) = false := by simp only [isT, tyN]; decide +kernel
@[simp] theorem isT_bool_bool (x) : isT "bool" (.bool x) = true := by simp only [isT, tyN]; decide +kernel
@[simp] theorem isT_bool_str (x) : isT "bool" (.str x) = false := by simp only [isT, tyN]; decide +kernel
@[simp] theorem isT_bool_list (x) : isT "bool" (.list x) = false := by simp only [isT, tyN]; decide +kernel
@[simp] theorem isT_bool_tuple (x) : isT "bool" (.tuple x) = false := by simp only [isT, tyN]; decide +kernel
@[simp] theorem isT_str_none : isT "str" (.none) = false := by simp only [isT, tyN]; decide +kernel
@[simp] theorem isT_str_int (x) : isT "str" (.int x) = false := by simp only [isT, tyN]; decide +kernel
@[simp] theorem isT_str_bool (x) : isT "str" (.bool x) = false := by simp only [isT, tyN]; decide +kernel
@[simp] theorem isT_str_str (x) : isT "str" (.str x) = true := by simp only [isT, tyN]; decide +kernel
@[simp] theorem isT_str_list (x) : isT "str" (.list x) = false := by simp only [isT, tyN]; decide +kernel
@[simp] theorem isT_str_tuple (x) : isT "str" (.tuple x) = false := by simp only [isT, tyN]; decide +kernel
@[simp] theorem isT_list_none : isT "list" (.none) = false := by simp only [isT, tyN]; decide +kernel
@[simp] theorem isT_list_int (x) : isT "list" (.int x) = false := by simp only [isT, tyN]; decide +kernel
@[simp] theorem isT_list_bool (x) : isT "list" (.bool x) = false := by simp only [isT, tyN]; decide +kernel
@[simp] theorem isT_list_str (x) : isT "list" (.str x) = false := by simp only [isT, tyN]; decide +kernel
@[simp] theorem isT_list_list (x) : isT "list" (.list x) = true := by simp only [isT, tyN]; decide +kernel
@[simp] theorem isT_list_tuple (x) : isT "list" (.tuple x) = false := by simp only [isT, tyN]; decide +kernel
@[simp] theorem isT_tuple_none : isT "tuple" (.none) = false := by simp only [isT, tyN]; decide +kernel
@[simp] theorem isT_tuple_int (x) : isT "tuple" (.int x) = false := by simp only [isT, tyN]; decide +kernel
@[simp] theorem isT_tuple_bool (x) : isT "tuple" (.bool x) = false := by simp only [isT, tyN]; decide +kernel
@[simp] theorem isT_tuple_str (x) : isT "tuple" (.str x) = false := by simp only [isT, tyN]; decide +kernel
@[simp] theorem isT_tuple_list (x) : isT "tuple" (.list x) = false := by simp only [isT, tyN]; decide +kernel
@[simp] theorem isT_tuple_tuple (x) : isT "tuple" (.tuple x) = true := by simp only [isT, tyN]; decide +kernel
end WH
namespace WH
open PySem PySem.Spec L2
variable [TabC] [ObjB]
def lone : PyData → Bool
  | .none => true
  | .bool _ => true
  | .int _ => true
  | .str _ => true
  | _ => false
@[simp] theorem lone_none : lone .none = true := rfl
@[simp] theorem lone_bool (b : Bool) : lone (.bool b) = true := rfl
@[simp] theorem lone_int (b : Int) : lone (.int b) = true := rfl
@[simp] theorem lone_str (b : Str) : lone (.str b) = true := rfl
theorem rp_lone {K : PySem.W.Frag} {G G' : Hp} {v : V} {d : PyData} (h : Rp K G v d) (hd : lone d = true) : Rp K G' v d := by
  cases h <;> first | exact .non | exact .bl _ | exact .int _ | exact .str _ | cases hd
def dLend (i : Nat) (de : DE) : DE := fun ρ Q _ => ∃ ds, ρ[i]? = some (Slot.ow (.lst ds)) ∧ de (ρ.set i (.sh (.list ds))) (fun d => lone d = true ∧ Q d) noX
@[simp] theorem s_dLend (i : Nat) (de : DE) (ρ : Sto) (Q : PyData → Prop) (X : XD) : dLend i de ρ Q X ↔ ∃ ds, ρ[i]? = some (Slot.ow (.lst ds)) ∧ de (ρ.set i (.sh (.list ds))) (fun d => lone d = true ∧ Q d) noX := Iff.rfl
theorem qe_lend {X : Cx} {W : XW} {e : Expr} {de : DE} (i : Nat) (h : QE X W e de) : QE X W e (dLend i de) := PE.sub h fun σ H Q h => by
  obtain ⟨G0, H0, G, ρ, Qd, Xd, k, ⟨ds, hi, h⟩, fn, xo⟩ := h
  obtain ⟨G', gg, k'⟩ := k.freezeSlot hi
  refine ⟨G0, H0, G', _, _, noX, k', h, fun G2 H2 v d k2 g2 rv q => ?_, xok_no⟩
  have gh : Same G (nt H2) := (gg.trans g2.gg).trans k2.gn
  exact fn G H2 v d (k.grow (Same.refl _) g2.hh gh fun a o e => .inl e) ⟨Same.refl _, g2.hh, fun a o e => .inl e⟩ (rp_lone rv q.1) q.2
def dLendT (i : Nat) (dt : DT) : DT := fun ρ Q _ => ∃ ds, ρ[i]? = some (Slot.ow (.lst ds)) ∧ dt (ρ.set i (.sh (.list ds))) Q noX
@[simp] theorem s_dLendT (i : Nat) (dt : DT) (ρ : Sto) (Q : Bool → Prop) (X : XD) : dLendT i dt ρ Q X ↔ ∃ ds, ρ[i]? = some (Slot.ow (.lst ds)) ∧ dt (ρ.set i (.sh (.list ds))) Q noX := Iff.rfl
theorem qt_lend {X : Cx} {W : XW} {e : Expr} {dt : DT} (i : Nat) (h : QT X W e dt) : QT X W e (dLendT i dt) := PT.sub h fun σ H Q h => by
  obtain ⟨G0, H0, G, ρ, Qd, Xd, k, ⟨ds, hi, h⟩, fn, xo⟩ := h
  obtain ⟨G', gg, k'⟩ := k.freezeSlot hi
  refine ⟨G0, H0, G', _, _, noX, k', h, fun G2 H2 b k2 g2 q => ?_, xok_no⟩
  have gh : Same G (nt H2) := (gg.trans g2.gg).trans k2.gn
  exact fn G H2 b (k.grow (Same.refl _) g2.hh gh fun a o e => .inl e) ⟨Same.refl _, g2.hh, fun a o e => .inl e⟩ q
theorem lcA_filM {α : Type} {dg : DG} {dt : DT} {de : DE} {ρ : Sto} {Q : List PyData → Prop} {g : α → PyData} (t : α → Bool) (f : α → PyData) :
    ∀ {xs : List α} {acc : List PyData}, acc.length + xs.length ≤ 100000 → (∀ x ∈ xs, ∀ (Kx : PyData → Prop) (K0 : Prop), (t x = true → Kx (f x)) → (t x = false → K0) → dg (g x) ρ fun ρ2 => dt ρ2 (fun b => if b = true then de ρ2 Kx noX else K0) noX) →
      Q (acc ++ (xs.filter t).map f) → lcW dg dt de ρ Q (xs.map g) acc
  | [], acc, _, _, q => by simpa using q
  | x :: xs, acc, hz, h, q => by
    simp only [List.length_cons] at hz
    show dg (g x) ρ _
    refine h x List.mem_cons_self _ (lcW dg dt de ρ Q (xs.map g) acc) (fun e => ⟨by omega, ?_⟩) fun e => ?_
    rotate_left
    · refine lcA_filM t f (by omega) (fun y hy => h y (List.mem_cons_of_mem _ hy)) ?_
      rw [List.filter_cons_of_neg (by rw [e]; decide)] at q
      exact q
    · refine lcA_filM t f (by simp; omega) (fun y hy => h y (List.mem_cons_of_mem _ hy)) ?_
      rw [List.filter_cons_of_pos e] at q
      simpa using q
end WH
namespace WH
open PySem PySem.Spec L2
variable [TabC] [ObjB]
section
variable {X : Cx} {W : XW}
def dPop (i j : Nat) : DS := fun D ρ => ∃ ds d, ρ[i]? = some (Slot.ow (.lst (ds ++ [d]))) ∧ i ≠ j ∧ D.nx ((ρ.set i (.ow (.lst ds))).set j (.sh d))
@[simp] theorem s_dPop (i j : Nat) (D : DEnds) (ρ : Sto) : dPop i j D ρ ↔ ∃ ds d, ρ[i]? = some (Slot.ow (.lst (ds ++ [d]))) ∧ i ≠ j ∧ D.nx ((ρ.set i (.ow (.lst ds))).set j (.sh d)) := Iff.rfl
theorem rpa_last {K : PySem.W.Frag} {G : Hp} : ∀ {xs : List V} {ds : List PyData} {d : PyData}, RpAll K G xs (ds ++ [d]) → ∃ ys v, xs = ys ++ [v] ∧ RpAll K G ys ds ∧ Rp K G v d
  | _, [], _, .cons a .nil => ⟨[], _, rfl, .nil, a⟩
  | _, _ :: ds, d, .cons a t => by
    obtain ⟨ys, v, rfl, h1, h2⟩ := rpa_last (ds := ds) (d := d) t
    exact ⟨_ :: ys, v, rfl, .cons a h1, h2⟩
theorem qs_pop {i j : Nat} {x y : Str} {p1 p2 p3 p4 pos : Pos} (hN : X.N.Nodup) (hp : PE X (.Call (.Attribute (.Name x p1) "pop" p2) [] [] p3) (tBM0 X.K "list" rPop (tVar i)))
    (hj : X.N[j]? = some y := by rfl) (hx : Loc X.env.scope y := by first | exact Or.inl rfl | exact Or.inr rfl) (hs : swapsWith (.Call (.Attribute (.Name x p1) "pop" p2) [] [] p3) (some (.Name y p4)) pos.line X.env = pure false := by rfl) (hf : X.fn y = true ∨ X.env.scope.names.lookup y = some .local := by first | exact .inl rfl | exact .inr rfl | assumption) :
    QS X W (.Assign [.Name y p4] (.Call (.Attribute (.Name x p1) "pop" p2) [] [] p3) pos) (dPop i j) := PS.sub (ps_set hN hj hx hp hs hf) fun D σ H h => by
  obtain ⟨G0, H0, G, ρ, Dd, k, ⟨ds, d, hi, ne, h⟩, nx, rt, bk, ct, ex⟩ := h
  obtain ⟨a, xs, h1, h2, h3, h4, h5⟩ := own_lst k hi
  obtain ⟨ys, v, rfl, r1, r2⟩ := rpa_last h5
  refine ⟨_, h1, tyV_own h2, a, ys ++ [v], v, rfl, rfl, h2, by simp, ?_⟩
  rw [List.dropLast_concat]
  exact nx G _ _ _ ((k.mutOw (ho' := .lst ys) (o' := .lst ds) hi h1 r1).setSh r2) h
end
end WH
namespace WH
open PySem PySem.Spec L2
variable [TabC] [ObjB]
section
open AutoSeq1 (wpAny_loadPart')
theorem meets_enumT (l : Addr) (items : Array Value) (n : Nat) (dct : Option Addr) (sl : Array (Option Value)) :
    Meets (Builtin.«enumerate.__new__» ⟨[.type "enumerate", .ref l], []⟩) (fun _ R s => s.heap.get? l = some { cls := .type "tuple", dict := dct, data := .seq items n, slots := sl } ∧
      R (.ok (.ret (.ref (s.heap.push { cls := .type "tuple_iterator", data := .fields #[.ref l, .int 0 0] }).objs.size)))
        { s with heap := (s.heap.push { cls := .type "tuple_iterator", data := .fields #[.ref l, .int 0 0] }).push { cls := .type "enumerate", data := .fields #[.none, .bool false, .ref s.heap.objs.size, rawInt 0, .none, .none] } }) :=
  .of_wp fun prog w A R s h => by
    obtain ⟨hp, g, d, tk, os⟩ := s; obtain ⟨hl, h⟩ := h
    have hsub := sub_enumerate
    have hL : Heap.IsTuple (Shared.heap ⟨hp, g, d, tk, os⟩) l items := ⟨_, hl, rfl, n, rfl⟩
    wp_walk using wpAny_loadPart' hl
    refine wpAny_stack_any fun st => wpAny_pure ?_
    split
    · rename_i c _ _ _ _ _
      cases (c == Value.type "enumerate")
      · wp_walk using wpAny_loadPart' hl, wpAny_pyIter_tuple hL
        exact ⟨_, rfl, h⟩
      · wp_walk using wpAny_loadPart' hl, wpAny_pyIter_tuple hL
        exact ⟨_, rfl, h⟩
    · wp_walk using wpAny_loadPart' hl, wpAny_pyIter_tuple hL
      exact ⟨_, rfl, h⟩
theorem call_enumT {prog : Program} {w : World} {A : Around} {E : Value → Shared → Prop} {s : Shared} {l : Addr} {items : Array Value} {Q : Value → Shared → Prop} (hL : s.heap.IsTuple l items)
    (h : ∀ h', IsEnum h' (s.heap.objs.size + 1) s.heap.objs.size 0 .none → h'.IsTupleIter s.heap.objs.size l 0 → h'.objs.size = s.heap.objs.size + 2 →
      (∀ b o, s.heap.get? b = some o → h'.get? b = some o) → Q (.ref (s.heap.objs.size + 1)) { s with heap := h' }) :
    wpAny (model prog w) A (call (.type "enumerate") [.ref l]) Q E s := by
  obtain ⟨⟨c, dct, dt, sl⟩, hl, hc, n, hd⟩ := hL
  replace hc : c = .type "tuple" := hc
  replace hd : dt = .seq items n := hd
  subst hc hd
  refine callType_new F.called_enumerate (by decide) (F.typeCall_enumerate_1 _) (F.newCall_enumerate_1 _) (fun obj => F.args_object_init_2 obj _) F.entry_enumerate_new
    (meets_enumT l items n dct sl) ⟨hl, ?_⟩
  have hz : (s.heap.push { cls := .type "tuple_iterator", data := .fields #[.ref l, .int 0 0] }).objs.size = s.heap.objs.size + 1 := Heap.size_push ..
  show _ ∧ _
  rw [hz]
  have he : IsEnum ((s.heap.push { cls := .type "tuple_iterator", data := .fields #[.ref l, .int 0 0] }).push
      { cls := .type "enumerate", data := .fields #[.none, .bool false, .ref s.heap.objs.size, rawInt 0, .none, .none] }) (s.heap.objs.size + 1) s.heap.objs.size 0 .none := by
    have := Heap.get?_push_size (s.heap.push { cls := .type "tuple_iterator", data := .fields #[.ref l, .int 0 0] })
      (o := { cls := .type "enumerate", data := .fields #[.none, .bool false, .ref s.heap.objs.size, rawInt 0, .none, .none] }) rfl
    rw [hz] at this; exact this
  refine ⟨⟨_, he, rfl⟩, h _ he ⟨_, Heap.get?_push_of_some _ (Heap.get?_push_size _ rfl), rfl, rfl⟩ (by rw [Heap.size_push, hz]) fun b o x => Heap.get?_push_of_some _ (Heap.get?_push_of_some _ x)⟩
end
theorem next_enumT_end {prog : Program} {w : World} {A : Around} {E : Value → Shared → Prop} {s : Shared} {e it l : Addr} {i : Nat} {items : Array Value} {old : Value} {Q : Option Value → Shared → Prop} (hh : A.handled = none)
    (he : IsEnum s.heap e it i old) (hit : s.heap.IsTupleIter it l i) (hl : s.heap.IsTuple l items) (hx : items[i]? = none)
    (hQ : ∀ h', Heap.ExtBut it s.heap h' → Q none { s with heap := h' }) : wpAny (model prog w) A (pyNext (.ref e)) Q E s := by
  have hT : s.TypeIs (.ref e) "enumerate" := ⟨_, he, rfl⟩
  unfold pyNext
  refine wpAny_bind (wpAny_attempt (wpAny_callSpecial?_slot (name := Str.ofString "__next__") hT F.slot_enumerate_next
    (wpAny_call_entry F.slot_enumerate_next hT F.entry_enumerate_next ?_ (F.args_enumerate_next_1 _))))
  show wpAny _ _ (field (.ref e) 2 >>= _) _ _ _
  refine wpAny_bind (wpAny_field he rfl (x := .ref it) rfl ?_)
  refine wpAny_bind (wpAny_nextOf_tuple_end hh hit hl hx fun h' x he' hx' => ?_)
  obtain ⟨o, ho, hc⟩ := hx'
  refine wpAny_bind (wpAny_isInstance (T := "StopIteration") (b := true) ⟨o, ho, hc⟩ isSubtype_stop ?_)
  exact wpAny_pure (hQ _ he')
def IteT (K : PySem.W.Frag) (a : Addr) : It :=
  ⟨fun i H => ∃ (xs : List V) (x : V), SqT K H a xs ∧ xs[i]? = some x, fun i H v H' => ∃ T x, v = .ref T ∧ H T = none ∧ H' = upd H T (.tup [.int (i : Nat), x]) ∧ ∀ xs, SqT K H a xs → xs[i]? = some x, fun i H => ∃ xs : List V, SqT K H a xs ∧ xs.length ≤ i⟩
theorem turn_enumT {P : Program} {w : World} {K : PySem.W.Frag} {elts : List Expr} {kk : Nat} {tpos : Pos} (a e it : Addr) (hai : a ≠ it) :
    Turn P w K (.Tuple elts kk tpos) (IteT K a) [e, it] e (fun i h => (∃ old, IsEnum h e it ((i : Nat) : Int) old) ∧ h.IsTupleIter it a i ∧ e ≠ it) where
  mem := by simp
  obj := fun i h st b hb => by
    obtain ⟨⟨old, he⟩, ⟨o, ho, hc, hd⟩, _⟩ := st
    have e' : b = e ∨ b = it := by simpa using hb
    rcases e' with z | z
    · rw [z]; exact ⟨_, he, fun v q => nomatch q⟩
    · rw [z]; exact ⟨o, ho, fun v q => by rw [hd] at q; cases q⟩
  keep := fun i h h' st k => let ⟨⟨old, he⟩, hi, hne⟩ := st; ⟨⟨old, k e (by simp) _ he⟩, hi.at fun o q => k it (by simp) o q, hne⟩
  item := by
    intro X hP hw hK hc i pins s σ H E I hf st hg
    subst hP hw hK
    obtain ⟨⟨old, he⟩, hit, hne⟩ := st
    obtain ⟨xs, x, hq, hx⟩ := hg
    obtain ⟨its, rv, p, hz⟩ := I.tuple hq
    obtain ⟨u, hu, ru⟩ := rv.get hx
    have hel : e < s.heap.objs.size := Heap.lt_size he
    have hil : it < s.heap.objs.size := by obtain ⟨_, q, _⟩ := hit; exact Heap.lt_size q
    have p' : s.heap.IsTuple a its.toArray := p
    have hea : e ≠ a := fun z => by
      obtain ⟨o, ho, hc', _⟩ := p'
      have he2 : s.heap.get? e = some _ := he
      rw [z, ho] at he2
      cases he2
      exact absurd (show Value.type "enumerate" = Value.type "tuple" from hc') (by decide)
    have hsz0 : i < its.toArray.size := by
      have := (List.getElem?_eq_some_iff.mp hu).1
      simpa using this
    refine wpAny_pyNext_enum_itemD (Draws.tuple (A := X.A.in1) (show X.A.in1.handled = none from I.ok.hd hc) it a hai its.toArray) he ⟨hit, p'⟩ hsz0 hne (by simp [hne, hea]) fun u' h' tk hP ho hs' hT hsz hk => ?_
    have eu : u' = u := by
      have h2 : its.toArray[i]? = some u := by simpa using hu
      rw [hP] at h2
      exact Option.some.inj h2
    subst eu
    refine ⟨_, rfl, wpAny_letOwnedTupleGo_enum (s := { s with heap := h', toks := tk + 1 }) ho fun h'' he' sb => ?_⟩
    have hT2 : h''.get? s.heap.objs.size = some { cls := .type "tuple", data := .seq #[.int i tk, u'] } := (sb.2 _ (Nat.ne_of_gt hel)).trans hT
    have new : ObjOk X.prog X.w (upd H s.heap.objs.size (.tup [.int (i : Nat), x])) h'' s.heap.objs.size (.tup [.int (i : Nat), x]) :=
      ⟨by show 2 ≤ sizeLine; decide, [.int i tk, u'], .cons ⟨_, rfl⟩ (.cons ru .nil), ⟨_, hT2, rfl, _, rfl⟩⟩
    have I1 : Inv X pins σ (upd H s.heap.objs.size (.tup [.int (i : Nat), x])) { s with heap := h'', toks := tk + 1 } :=
      I.turnedNew (ch := [e, it]) (fun b ob hb q => (sb.2 b (fun z => hb (by simp [z]))).trans (hk b ob (fun z => hb (by simp [z])) (fun z => hb (by simp [z])) q)) hf (Nat.le_refl _) new
    refine ⟨.ref s.heap.objs.size, _, I1, rfl, ⟨_, x, rfl, I.hok.fresh (Nat.le_refl _), rfl, fun ys hy => by rw [I.tuple_inj hy hq]; exact hx⟩, ⟨⟨u', ?_⟩, hs'.1.at fun o q => (sb.2 it (Ne.symm hne)).trans q, hne⟩, fun b hb => ?_⟩
    · have e1 : ((i + 1 : Nat) : Int) = (i : Int) + 1 := by omega
      rw [e1]; exact he'
    · have hb' : b < s.heap.objs.size := by
        have e' : b = e ∨ b = it := by simpa using hb
        rcases e' with z | z
        · rw [z]; exact hel
        · rw [z]; exact hil
      rw [upd_ne (Nat.ne_of_lt hb')]
      exact (hf b hb).1
  done := by
    intro X hP hw hK hc i pins s σ H E I hf st hg
    subst hP hw hK
    obtain ⟨⟨old, he⟩, hit, hne⟩ := st
    obtain ⟨xs, hq, hx⟩ := hg
    obtain ⟨its, rv, p, hz⟩ := I.tuple hq
    obtain ⟨f0, f1, f2, f3, f4, f5⟩ := hf it (by simp)
    have hl := rv.length
    have p' : s.heap.IsTuple a its.toArray := p
    exact next_enumT_end (I.ok.hd hc) he hit p' (by simp; omega) fun h' eb => ⟨rfl, I.turned (t' := s.toks) (fun b o hb q => eb b o hb q) f0 f1 f3 f4 f5⟩
  self := fun A i s Q E st h => let ⟨⟨_, he⟩, _⟩ := st; wpAny_pyIter_enum he h
def iEnumA (K : PySem.W.Frag) (ta : TA) : TI := fun σ H R => ta σ H fun vs H1 => ∃ a, vs = [.ref a] ∧ (((∃ xs, SqL K H1 a xs) ∧ R (Ite K a) H1) ∨ ((∃ xs, SqT K H1 a xs) ∧ R (IteT K a) H1))
theorem pi_enumA {X : Cx} {e : Expr} {ta : TA} {p pos tpos : Pos} {elts : List Expr} {kk : Nat} (hg : Gl X "enumerate") (hm : X.mg "enumerate" = none) (ha : PA X [e] ta) (hs : starEach [e] X.env = [(false, eval e X.env)] := by rfl) :
    PI X (.Tuple elts kk tpos) (.Call (.Name "enumerate" p) [e] [] pos) (iEnumA X.K ta) := by
  refine ⟨fun pins s σ H R I h => ?_⟩
  refine PyProof.Rows.Call_ (ld_blt I hg hm PyProof.Rows.boot_enumerate (PyProof.Rows.callWith_type1 (thn (ha.run pos pins s σ H _ I h) fun us s1 ⟨vs, H1, I1, r1, q1⟩ => ?_) hs rfl))
  obtain ⟨a, ex, q⟩ := q1
  subst ex
  cases r1 with
  | cons r rr =>
    cases rr
    cases r
    have fin : ∀ b, (b = s1.heap.objs.size + 1 ∨ b = s1.heap.objs.size) → FpOk X pins H1 b := fun b e' => by
      have hle : s1.heap.objs.size ≤ b := by
        rcases e' with z | z
        · rw [z]; exact Nat.le_add_right _ _
        · rw [z]; exact Nat.le_refl _
      exact I1.fpOk hle (I1.hok.fresh hle)
    rcases q with ⟨⟨xs, hq⟩, q⟩ | ⟨⟨xs, hq⟩, q⟩
    · obtain ⟨its, rv, p', hz⟩ := I1.list hq
      refine call_enumerate_list p'.isList fun h' he hit hsz hk => wpAny_pyIter_enum he ?_
      have I2 : Inv X pins σ H1 { s1 with heap := h' } := I1.kept (t' := s1.toks) hk
      exact ⟨s1.heap.objs.size + 1, [s1.heap.objs.size + 1, s1.heap.objs.size], _, _, H1, rfl, I2, turn_enum a (s1.heap.objs.size + 1) s1.heap.objs.size, ⟨⟨.none, he⟩, hit, Nat.succ_ne_self _⟩, fun b hb => fin b (by simpa using hb), q⟩
    · obtain ⟨its, rv, p', hz⟩ := I1.tuple hq
      have p2 : s1.heap.IsTuple a its.toArray := p'
      have hlt : a < s1.heap.objs.size := by obtain ⟨_, z, _⟩ := p2; exact Heap.lt_size z
      refine call_enumT p2 fun h' he hit hsz hk => wpAny_pyIter_enum he ?_
      have I2 : Inv X pins σ H1 { s1 with heap := h' } := I1.kept (t' := s1.toks) hk
      exact ⟨s1.heap.objs.size + 1, [s1.heap.objs.size + 1, s1.heap.objs.size], _, _, H1, rfl, I2, turn_enumT a (s1.heap.objs.size + 1) s1.heap.objs.size (Nat.ne_of_lt hlt), ⟨⟨.none, he⟩, hit, Nat.succ_ne_self _⟩, fun b hb => fin b (by simpa using hb), q⟩
def enumD (ds : List PyData) : List PyData := ds.zipIdx.map fun p => wk [.int (p.2 : Int), p.1]
theorem enumD_len (ds : List PyData) : (enumD ds).length = ds.length := by simp [enumD]
theorem enumD_get {ds : List PyData} {i : Nat} {d : PyData} (h : (enumD ds)[i]? = some d) : ∃ e, ds[i]? = some e ∧ d = wk [.int (i : Int), e] := by
  unfold enumD at h
  rw [List.getElem?_map, List.getElem?_zipIdx] at h
  cases q : ds[i]? with
  | none => rw [q] at h; cases h
  | some e =>
    rw [q] at h
    refine ⟨e, rfl, ?_⟩
    simpa using h.symm
theorem ntb_tup {xs : List V} : NTb (.tup xs) := fun _ z => by cases z
theorem grow_pair {K : PySem.W.Frag} {G1 H1 : Hp} {T : Addr} {vs : List V} {ds : List PyData} (gh : Same G1 (nt H1)) (hT : H1 T = none) (r : RpAll K G1 vs ds) : ∃ G2, Gr G1 H1 G2 (upd H1 T (.tup vs)) ∧ Same G2 (nt (upd H1 T (.tup vs))) ∧ Rp K G2 (.ref T) (wk ds) :=
  ⟨upd G1 T (.tup vs), Gr.share (gh.trans nt_le) hT, fun a u e => by
    rw [nt_upd ntb_tup]
    by_cases ha : a = T
    · subst ha; rw [upd_same] at e ⊢; exact e
    · rw [upd_ne ha] at e ⊢; exact gh a u e, rp_tupWk ((gh.trans nt_le).free hT) r⟩
theorem iter_enumL {K : PySem.W.Frag} {G : Hp} {a : Addr} {xs : List V} {ds : List PyData} (h : G a = some (.lst xs)) (r : RpAll K G xs ds) : IterOk K (Ite K a) G (enumD ds) := fun G1 H1 g gh i => by
  have hl := rpa_length r
  have hq : SqL K H1 a xs := SqL.of (nt_some (gh _ _ (g _ _ h)))
  rw [enumD_len]
  refine ⟨fun hi => ⟨xs, xs[i]'(by omega), hq, by simp [show i < xs.length by omega]⟩, fun hi => ⟨xs, hq, by omega⟩, fun d x H2 hd hy => ?_⟩
  obtain ⟨T, y, rfl, hT, rfl, hx⟩ := hy
  obtain ⟨e, he, rfl⟩ := enumD_get hd
  obtain ⟨v, e1, e2⟩ := rpa_get r he
  rw [hx xs hq] at e1
  cases e1
  exact grow_pair gh hT (.cons (.int _) (.cons (rp_mono g e2) .nil))
theorem iter_enumT {K : PySem.W.Frag} {G : Hp} {a : Addr} {xs : List V} {ds : List PyData} (h : SqT K G a xs) (r : RpAll K G xs ds) : IterOk K (IteT K a) G (enumD ds) := fun G1 H1 g gh i => by
  have hl := rpa_length r
  have hq : SqT K H1 a xs := sqT_mono (g.trans (gh.trans nt_le)) h
  rw [enumD_len]
  refine ⟨fun hi => ⟨xs, xs[i]'(by omega), hq, by simp [show i < xs.length by omega]⟩, fun hi => ⟨xs, hq, by omega⟩, fun d x H2 hd hy => ?_⟩
  obtain ⟨T, y, rfl, hT, rfl, hx⟩ := hy
  obtain ⟨e, he, rfl⟩ := enumD_get hd
  obtain ⟨v, e1, e2⟩ := rpa_get r he
  rw [hx xs hq] at e1
  cases e1
  exact grow_pair gh hT (.cons (.int _) (.cons (rp_mono g e2) .nil))
def dEnum (de : DE) : DI := fun ρ Q X => de ρ (fun d => ∃ b ds, d = dat b ds ∧ Q (enumD ds)) X
@[simp] theorem s_dEnum (de : DE) (ρ : Sto) (Q : List PyData → Prop) (X : XD) : dEnum de ρ Q X ↔ de ρ (fun d => ∃ b ds, d = dat b ds ∧ Q (enumD ds)) X := Iff.rfl
theorem qi_enum {X : Cx} {W : XW} {e : Expr} {p pos tpos : Pos} {elts : List Expr} {kk : Nat} {de : DE} (hm : X.mg "enumerate" = none) (he : QE X W e de) (hg : Gl X "enumerate" := by rfl) (hs : starEach [e] X.env = [(false, eval e X.env)] := by rfl) : QI X W (.Tuple elts kk tpos) (.Call (.Name "enumerate" p) [e] [] pos) (dEnum de) :=
  PI.sub (pi_enumA hg hm (pa_cons he pa_nil hs) hs) fun σ H R h => by
  obtain ⟨G0, H0, G, ρ, Qd, Xd, k, h, fn, xo⟩ := h
  refine ⟨G0, H0, G, ρ, _, Xd, k, h, fun G1 H1 v d k1 g1 rv q => ?_, xo⟩
  obtain ⟨b, ds, rfl, q⟩ := q
  cases b with
  | false =>
    cases rv with
    | lst l1 l2 => exact ⟨_, rfl, .inl ⟨⟨_, SqL.of (k1.gh _ _ l1)⟩, fn G1 H1 _ _ k1 g1 (iter_enumL l1 l2) q⟩⟩
  | true =>
    cases rv with
    | tup l1 l2 => exact ⟨_, rfl, .inr ⟨⟨_, sqT_mono k1.gh l1.t⟩, fn G1 H1 _ _ k1 g1 (iter_enumT l1.t l2) q⟩⟩
end WH
namespace WH
open PySem PySem.Spec L2
variable [TabC] [ObjB]
section
variable {X : Cx} {W : XW} {a b e : Expr} {p pos apos cpos : Pos} {da db de : DE}
def dJoin (da : DE) (dc : DC) : DE := fun ρ Q X => da ρ (fun s => ∃ a : Str, s = .str a ∧ dc ρ (fun _ ds => ∃ ys : List Str, ds = ys.map .str ∧ (ys.map (·.length)).sum + ys.length * a.length ≤ 100000 ∧ Q (.str (Txt.join a ys))) X) X
@[simp] theorem s_dJoin (da : DE) (dc : DC) (ρ : Sto) (Q : PyData → Prop) (X : XD) : dJoin da dc ρ Q X ↔ da ρ (fun s => ∃ a : Str, s = .str a ∧ dc ρ (fun _ ds => ∃ ys : List Str, ds = ys.map .str ∧ (ys.map (·.length)).sum + ys.length * a.length ≤ 100000 ∧ Q (.str (Txt.join a ys))) X) X := Iff.rfl
theorem qe_join {dc : DC} (ha : QE X W a da) (hb : QC X W b dc)
    (hbase : attributeBase a "join" X.env (eval a X.env) = eval a X.env := by rfl)
    (hfew : ((backTo cpos (starEach [b] X.env)).all (fun x => !x.1) && (backToKw cpos (keywordEach [] X.env)).all (fun x => x.1.isSome) && decide ([b].length + ([] : List Keyword).length + (if ([] : List Keyword).isEmpty then 0 else 1) < 30)) = true := by rfl)
    (hline : (apos.endLine == cpos.line) = true := by rfl) (hs : starEach [b] X.env = (false, eval b X.env) :: starEach [] X.env := by rfl) (hplain : (backTo cpos (starEach [] X.env)).any (·.1) = false := by rfl) :
    QE X W (.Call (.Attribute a "join" apos) [b] [] cpos) (dJoin da dc) := PE.sub (pe_bm PySem.F.plainAttrs_str PySem.F.slot_str_join PySem.F.type_str_join mt_join ha (pa_cons hb pa_nil hs) hbase hfew hline hs hplain) fun σ H Q h => by
  obtain ⟨G0, H0, G, ρ, Qd, Xd, k, h, fn, xo⟩ := h
  refine ⟨G0, H0, G, ρ, _, Xd, k, h, fun G1 H1 x d k1 g1 rx hb => ?_, xo⟩
  obtain ⟨s, rfl, hb⟩ := hb
  cases rx
  refine ⟨rfl, G0, H0, G1, ρ, _, Xd, k1, hb, fun G2 H2 a xs b ds k2 g2 sq rv q => ?_, xo.mono g1⟩
  obtain ⟨ys, rfl, hz, q⟩ := q
  have e := rpa_ofStrs rv
  subst e
  exact ⟨s, a, ys, rfl, rfl, sq.any k2.gh, by omega, fn G2 H2 _ _ k2 (g1.trans g2) (.str _) q⟩
def dSplit (da db : DE) : DO := fun ρ Q X => da ρ (fun s => ∃ a : Str, s = .str a ∧ db ρ (fun t => ∃ b : Str, t = .str b ∧ (b.length == 0) = false ∧ a.length ≤ 100000 ∧ Q (.lst ((Txt.split a b).map .str))) X) X
@[simp] theorem s_dSplit (da db : DE) (ρ : Sto) (Q : OD → Prop) (X : XD) : dSplit da db ρ Q X ↔ da ρ (fun s => ∃ a : Str, s = .str a ∧ db ρ (fun t => ∃ b : Str, t = .str b ∧ (b.length == 0) = false ∧ a.length ≤ 100000 ∧ Q (.lst ((Txt.split a b).map .str))) X) X := Iff.rfl
theorem qo_split (ha : QE X W a da) (hb : QE X W b db)
    (hbase : attributeBase a "split" X.env (eval a X.env) = eval a X.env := by rfl)
    (hfew : ((backTo cpos (starEach [b] X.env)).all (fun x => !x.1) && (backToKw cpos (keywordEach [] X.env)).all (fun x => x.1.isSome) && decide ([b].length + ([] : List Keyword).length + (if ([] : List Keyword).isEmpty then 0 else 1) < 30)) = true := by rfl)
    (hline : (apos.endLine == cpos.line) = true := by rfl) (hs : starEach [b] X.env = (false, eval b X.env) :: starEach [] X.env := by rfl) (hplain : (backTo cpos (starEach [] X.env)).any (·.1) = false := by rfl) :
    QO X W (.Call (.Attribute a "split" apos) [b] [] cpos) (dSplit da db) := PE.sub (pe_bm PySem.F.plainAttrs_str PySem.F.slot_str_split PySem.F.type_str_split mt_split ha (pa_cons hb pa_nil hs) hbase hfew hline hs hplain) fun σ H Q h => by
  obtain ⟨G0, H0, G, ρ, Qd, Xd, k, h, fn, xo⟩ := h
  refine ⟨G0, H0, G, ρ, _, Xd, k, h, fun G1 H1 x d k1 g1 rx hb => ?_, xo⟩
  obtain ⟨s, rfl, hb⟩ := hb
  cases rx
  refine ⟨rfl, G0, H0, G1, ρ, _, Xd, k1, hb, fun G2 H2 y e k2 g2 ry q => ?_, xo.mono g1⟩
  obtain ⟨t, rfl, ht, hz, q⟩ := q
  cases ry
  exact ⟨s, t, rfl, rfl, ht, Nat.le_trans (Nat.add_le_add_right hz 2) (by decide), fin_own (o := .lst ((Txt.split s t).map .str)) k2 (fun G3 H3 p ho o k3 g3 n1 n2 n3 n4 q => fn G3 H3 p ho o k3 ((g1.trans g2).trans g3) (g1.hh.free (g2.hh.free n1)) n2 n3 n4 q) (show RpAll _ _ _ _ from rpa_strs _) q⟩
theorem log_of {i : Int} (h : i.natAbs < 2 ^ 200) : i.natAbs.log2 < 1920 := by
  by_cases hz : i.natAbs = 0
  · rw [hz]; decide
  · exact (Nat.log2_lt hz).mpr (Nat.lt_of_lt_of_le h (Nat.pow_le_pow_right (by decide) (by decide)))
theorem len_app (a b : Str) : (a ++ b).length = a.length + b.length := by
  show (a.cps ++ b.cps).size = a.cps.size + b.cps.size
  simp
end
end WH
namespace WH
section
open PySem PySem.W PySem.Calls PyProof.Rows PySem.HandSPX Builtin Builtin.ObjectAttr
theorem refsT_pass {nw : String} {tl : List Value} (hT : BsX nw tl) (self : Value) (l : List Value) (e : refsT tl l = true) : refuseLoop self "__setattr__" l = pure () := by
  fun_induction refsT tl l with
  | case1 a r ih =>
    rw [refuseLoop_ref]
    exact ih e
  | case2 l _ =>
    rw [beq_iff_eq.mp e]
    exact hT.pass self
theorem refsT_has {tl : List Value} (Y : String) (l : List Value) (e : refsT tl l = true) : l.contains (.type Y) = tl.contains (.type Y) := by
  fun_induction refsT tl l with
  | case1 a r ih =>
    rw [List.contains_cons, ih e]
    rfl
  | case2 l _ => rw [beq_iff_eq.mp e]
theorem bsx_VE : BsX "ValueError.__new__" [.type "ValueError", .type "Exception", .type "BaseException", .type "object"] := ⟨⟨_, _, F.excBase_ValueError⟩, F.store_ValueError.passes, by decide +kernel⟩
theorem bsx_LE : BsX "LookupError.__new__" [.type "LookupError", .type "Exception", .type "BaseException", .type "object"] := ⟨⟨_, _, F.excBase_LookupError⟩, F.store_LookupError.passes, by decide +kernel⟩
theorem bsx_IE : BsX "IndexError.__new__" [.type "IndexError", .type "LookupError", .type "Exception", .type "BaseException", .type "object"] := ⟨⟨_, _, F.excBase_IndexError⟩, F.store_IndexError.passes, by decide +kernel⟩
variable {P : Program} {w : World} {A : Around} {R : Result → Shared → Prop} {h0 : Heap} {gs : Array GenState} {dr : Drawn} {tk0 : Nat} {os : OsState}
section
variable {K : W.Frag} {nw : String} {tl : List Value} {cd : ClassData} {x C : Addr}
theorem mro_obj (hT : BsX nw tl) (hc : W.clsIn K C = some cd) (hm : refsT tl cd.mro = true) : W.mroIn K C (.type "object") = some true := by
  have e1 : cd.mro.contains (.type "object") = true := (refsT_has "object" _ hm).trans hT.obj
  have e2 : cd.mro.isEmpty = false := by
    cases q : cd.mro with
    | nil => rw [q] at e1; cases e1
    | cons _ _ => rfl
  unfold W.mroIn
  rw [hc, Option.bind_some, if_neg (by rw [e2]; decide), e1]
theorem put_first {fv : Array Value} {nm : Str} {tk : Tok} {v : Value} (hT : BsX nw tl) (hK : K.In h0) (hx : h0.get? x = some { cls := .ref C, data := .fields fv }) (hc : W.clsIn K C = some cd) (hm : refsT tl cd.mro = true) (hh : cd.hasDict = true) (no : W.findIn K (.ref C) nm = some none)
    (fin : ∀ h' tk' dx, (∀ b o, b ≠ x → h0.get? b = some o → h'.get? b = some o) → h0.objs.size ≤ dx → dx ≠ x → h'.get? x = some { cls := .ref C, dict := some dx, data := .fields fv } → h'.Ns1 dx (fun y => if y = nm then some v else none) → R (.ok (.ret .none)) ⟨h', gs, dr, tk', os⟩) :
    codeAny (model P w) A (.call (.builtin "object.__setattr__") ⟨[.ref x, .str nm tk, v], []⟩) R ⟨h0, gs, dr, tk0, os⟩ := by
  have at_x : W.InstAt h0 x { cls := .ref C, data := .fields fv } C none := ⟨hx, rfl, rfl, trivial⟩
  have lt_x : x ≠ h0.objs.size := Nat.ne_of_lt (Heap.lt_size hx)
  have is_o : W.Looks (model P w) h0 (isInstance (.ref x) (.type "object")) true := at_x.type.andThen (W.looks_mroIn hK (mro_obj hT hc hm))
  refine codeAny_call_builtin F.store_object.slot.plain F.store_object.entry (@W.check_slot (model P w) _ _ ⟨h0, gs, dr, tk0, os⟩ "object.__setattr__" "object" "__setattr__" (.ref x) [.str nm tk, v] [] _ F.store_object.kind F.store_object.split is_o (F.store_object.args (.ref x) (.str nm tk) v) ?_)
  have lk_m : W.Looks (model P w) h0 (mroOf (.ref C)) cd.mro := (W.looks_clsIn hK hc).andThen .now
  have lk_n : W.Looks (model P w) h0 (storeTaker? none) none := .now
  have lk_c : W.Looks (model P w) h0 (classData C) cd := W.looks_clsIn hK hc
  rw [W.osa_eq, refuse_eq]
  refine wpAny_bind (wpAny_bind (at_x.type.at (wpAny_bind (lk_m.at ?_))))
  rw [refsT_pass hT _ _ hm]
  refine wpAny_pure (wpAny_bind (at_x.type.at (wpAny_bind ((W.looks_findIn hK no).at (wpAny_bind (lk_n.at ?_))))))
  show wpAny _ _ (storeInOwnDict (.ref x) (.ref C) (.str nm tk) nm v false) _ _ _
  obtain ⟨_, _, _, _, _, has, _, _, _, _, _⟩ := cd
  dsimp only at hh
  subst hh
  unfold storeInOwnDict ownDictForStores
  repeat (first | with_reducible refine store_in_new ?_ ?_ | with_reducible refine wpAny_loadPart_at hx ?_ | with_reducible refine lk_c.at ?_ | wp_step)
  · exact ⟨_, #[], _, (Heap.get?_update_ne _ _ _ _ lt_x.symm).trans (Heap.get?_push_at rfl rfl), rfl, fun e z => absurd z (by simp), fun _ => rfl⟩
  · intro h' tk' n' same
    have hx1 : (h0.push { cls := .type "dict", data := .dict #[] }).get? x = some { cls := .ref C, data := .fields fv } := Heap.get?_push_of_some _ hx
    refine fin h' tk' h0.objs.size (fun b o hb ho => ?_) (Nat.le_refl _) lt_x.symm ?_ n'
    · exact (same.2 b (Nat.ne_of_lt (Heap.lt_size ho))).trans ((Heap.get?_update_ne _ _ _ _ hb).trans (Heap.get?_push_of_some _ ho))
    · exact (same.2 x lt_x).trans (Heap.get?_update_self _ hx1 rfl)
theorem put_more {fv : Array Value} {nm : Str} {tk : Tok} {v : Value} {dx : Addr} {m0 : Str → Option Value} {nl : List Str} (hT : BsX nw tl) (hK : K.In h0) (hx : h0.get? x = some { cls := .ref C, dict := some dx, data := .fields fv }) (hn : h0.Ns1 dx m0) (wi : Within m0 nl) (lz : nl.length ≤ 1000)
    (hc : W.clsIn K C = some cd) (hm : refsT tl cd.mro = true) (hh : cd.hasDict = true) (no : W.findIn K (.ref C) nm = some none)
    (fin : ∀ h' tk', (∀ b o, b ≠ dx → h0.get? b = some o → h'.get? b = some o) → h'.Ns1 dx (fun y => if y = nm then some v else m0 y) → R (.ok (.ret .none)) ⟨h', gs, dr, tk', os⟩) :
    codeAny (model P w) A (.call (.builtin "object.__setattr__") ⟨[.ref x, .str nm tk, v], []⟩) R ⟨h0, gs, dr, tk0, os⟩ := by
  obtain ⟨oD, _, _, hoD, _, _⟩ := hn.count wi
  have at_x : W.InstAt h0 x { cls := .ref C, dict := some dx, data := .fields fv } C (some oD) := ⟨hx, rfl, rfl, hoD⟩
  have is_o : W.Looks (model P w) h0 (isInstance (.ref x) (.type "object")) true := at_x.type.andThen (W.looks_mroIn hK (mro_obj hT hc hm))
  refine codeAny_call_builtin F.store_object.slot.plain F.store_object.entry (@W.check_slot (model P w) _ _ ⟨h0, gs, dr, tk0, os⟩ "object.__setattr__" "object" "__setattr__" (.ref x) [.str nm tk, v] [] _ F.store_object.kind F.store_object.split is_o (F.store_object.args (.ref x) (.str nm tk) v) ?_)
  have lk_m : W.Looks (model P w) h0 (mroOf (.ref C)) cd.mro := (W.looks_clsIn hK hc).andThen .now
  have lk_n : W.Looks (model P w) h0 (storeTaker? none) none := .now
  have lk_c : W.Looks (model P w) h0 (classData C) cd := W.looks_clsIn hK hc
  rw [W.osa_eq, refuse_eq]
  refine wpAny_bind (wpAny_bind (at_x.type.at (wpAny_bind (lk_m.at ?_))))
  rw [refsT_pass hT _ _ hm]
  refine wpAny_pure (wpAny_bind (at_x.type.at (wpAny_bind ((W.looks_findIn hK no).at (wpAny_bind (lk_n.at ?_))))))
  show wpAny _ _ (storeInOwnDict (.ref x) (.ref C) (.str nm tk) nm v false) _ _ _
  obtain ⟨_, _, _, _, _, has, _, _, _, _, _⟩ := cd
  dsimp only at hh
  subst hh
  unfold storeInOwnDict ownDictForStores
  repeat (first | with_reducible refine PySem.OEX.store_in_old hn wi lz ?_ | with_reducible refine wpAny_loadPart_at hx ?_ | with_reducible refine lk_c.at ?_ | wp_step)
  intro h' tk' n' same
  exact fin h' tk' (fun b o hb ho => (same.2 b hb).trans ho) n'
end
end
open PySem PySem.Spec L2 PyProof.Rows
theorem OexG.cl {K : PySem.W.Frag} {C : Addr} (T : OexG K C) : ∃ nw tl cd, BsX nw tl ∧ PySem.W.clsIn K C = some cd ∧ refsT tl cd.mro = true ∧ cd.hasDict = true := by
  obtain ⟨nw, tl, nm, q, N, bs, bm, sn, sub, ab, col, dd, k0, k1, k2, k3, k5, B, hC, hbm⟩ := T.cls
  refine ⟨nw, tl, { name := nm, bases := bs, mro := .ref C :: bm, ns := N, qualname := q, hasDict := true, slotNames := sn, subclasses := sub, abstract := ab, collection := col, hasDel := false }, B, ?_, hbm, rfl⟩
  unfold PySem.W.clsIn
  rw [hC] <;> rfl
section
variable {X : Cx} {pins : List (Addr × Obj)} {σ : L2.St} {H : Hp} {s : Shared} {a C dx : Addr} {f : Str} {y : V} {u : Value} {fs : List (Str × V)} {Q : Unit → Shared → Prop} {E : Value → Shared → Prop} {A : Around}
theorem stG_new (T : OexG X.K C) (I : Inv X pins σ H s) (e : H a = some (exo a C none)) (no : PySem.W.findIn X.K (.ref C) f = some none) (ry : RelV y u)
    (fin : ∀ dx s', H dx = none → dx ≠ a → Inv X pins σ (upd (upd H dx (exd dx [(f, y)])) a (exo a C (some dx))) s' → Q () s') : wpAny (model X.prog X.w) A (setAttr (.ref a) f u) Q E s := by
  obtain ⟨nw, tl, cd, B, hc, hm, hh⟩ := T.cl
  obtain ⟨t1, ho⟩ := exo_at I.hok e
  obtain ⟨h0, gs, dr, tk, os⟩ := s
  refine PySem.W.set_plain I.kIn (ox := { cls := .ref C, dict := none, data := .fields #[.ref t1, .none, .none, .none, .bool false, .none] }) (od := none) ⟨ho, rfl, rfl, trivial⟩ T.sa ?_
  refine put_first B I.kIn ho hc hm hh no fun h' tk' dx kp dn dne hx hn => ?_
  have hnd : H dx = none := I.hok.fresh dn
  have ne_d : ∀ {b : Addr} {o : Obj}, h0.get? b = some o → b ≠ dx := fun {b o} q => Nat.ne_of_lt (Nat.lt_of_lt_of_le (Heap.lt_size q) dn)
  have ne_a : ∀ {b : Addr}, H b = none → b ≠ a := fun {b} n z => by rw [z, e] at n; cases n
  have U1 : Un X.fs [] H (upd (upd H dx (exd dx [(f, y)])) a (exo a C (some dx))) h0 h' := by
    refine ⟨fun b o q n _ _ => kp b o (ne_a n) q, fun b o q n _ _ => ⟨o.slots, kp b o (ne_a n) q⟩, fun b o q n _ => ?_, fun b o q _ => ?_, fun b xs q => ?_, fun b o v q => ?_, fun b ps q => ⟨#[], ?_⟩⟩
    · rw [upd_ne (ne_a n), upd_ne (ne_d q)]; exact n
    · by_cases hb : b = a
      · exact ⟨_, by rw [hb]; exact hx⟩
      · exact ⟨o, kp b o hb q⟩
    · rw [upd_ne (at_ne e q exo_tup), upd_ne (ne_of_none q hnd)]; exact q
    · rw [upd_ne (at_ne e q exo_frz), upd_ne (ne_of_none q hnd)]; exact q
    · rw [upd_ne (at_ne e q exo_tbl), upd_ne (ne_of_none q hnd), q]; simp
  refine fin dx _ hnd dne (I.un (t' := tk') U1 fun b o q => ?_)
  by_cases hb : b = a
  · subst hb
    rw [upd_same] at q
    cases q
    exact exo_ok hx
  · rw [upd_ne hb] at q
    by_cases hd : b = dx
    · subst hd
      rw [upd_same] at q
      cases q
      exact exd_ok hn (relO_put (fs := []) ry fun g => True.intro)
    · rw [upd_ne hd] at q
      refine (I.hok b o q).stay (fun c v hc z => kp c v ?_ z) (fun c hc => ?_) (fun c xs hc => ?_)
      · rcases hc with hc | hc
        · rw [hc]; exact hb
        · exact at_ne e hc exo_own
      · rw [upd_ne (at_ne e hc exo_own), upd_ne (ne_of_none hc hnd)]; exact hc
      · rw [upd_ne (at_ne e hc exo_tup), upd_ne (ne_of_none hc hnd)]; exact hc
theorem stG_old (T : OexG X.K C) (I : Inv X pins σ H s) (e : H a = some (exo a C (some dx))) (ed : H dx = some (exd dx fs)) (hl : fs.length ≤ 900) (no : PySem.W.findIn X.K (.ref C) f = some none) (ry : RelV y u)
    (fin : ∀ s', Inv X pins σ (upd H dx (exd dx ((f, y) :: fs))) s' → Q () s') : wpAny (model X.prog X.w) A (setAttr (.ref a) f u) Q E s := by
  obtain ⟨nw, tl, cd, B, hc, hm, hh⟩ := T.cl
  obtain ⟨t1, ho⟩ := exo_at I.hok e
  obtain ⟨mA, hn, rel⟩ := exd_at I.hok ed
  obtain ⟨h0, gs, dr, tk, os⟩ := s
  obtain ⟨oD, _, _, hoD, _, _⟩ := hn.count (within_of rel)
  refine PySem.W.set_plain I.kIn (ox := { cls := .ref C, dict := some dx, data := .fields #[.ref t1, .none, .none, .none, .bool false, .none] }) (od := some oD) ⟨ho, rfl, rfl, hoD⟩ T.sa ?_
  refine put_more B I.kIn ho hn (within_of rel) (by rw [List.length_map]; omega) hc hm hh no fun h' tk' kp hn' => ?_
  refine fin _ (I.write (t' := tk') (x := dx) (e := dx) (o := exd dx ((f, y) :: fs)) (by rw [ed]; exact True.intro) (.inl rfl) kp ?_ (exd_ok hn' (relO_put ry rel)))
  obtain ⟨o, _, _, e', _⟩ := hn'
  exact ⟨o, e'⟩
end
def tOsG (K : PySem.W.Frag) (f : Str) (to te : TE) : TS := fun D σ H => te σ H fun y H1 => to σ H1 fun x H2 => ∃ a C : Addr, x = .ref a ∧ OexG K C ∧ PySem.W.findIn K (.ref C) f = some none ∧
  ((H2 a = some (exo a C none) ∧ ∀ dx, H2 dx = none → dx ≠ a → D.nx σ (upd (upd H2 dx (exd dx [(f, y)])) a (exo a C (some dx)))) ∨ ∃ (dx : Addr) (fs : List (Str × V)), H2 a = some (exo a C (some dx)) ∧ H2 dx = some (exd dx fs) ∧ fs.length ≤ 900 ∧ D.nx σ (upd H2 dx (exd dx ((f, y) :: fs))))
theorem ps_osg {X : Cx} {o e : Expr} {to te : TE} {f : Str} {p' pos : Pos} (ho : PE X o to) (he : PE X e te) (hs : swapsWith e (some (.Attribute o f p')) pos.line X.env = pure false := by rfl) : PS X (.Assign [.Attribute o f p'] e pos) (tOsG X.K f to te) := by
  refine ⟨fun pins s σ H D I h => ?_⟩
  refine plainObj_wpAny_Assign_Attribute (thn (he.run pins s σ H _ I h) fun v s1 z1 => ?_) hs
  obtain ⟨y, H1, I1, r1, q1⟩ := z1
  refine thn (ho.run pins s1 σ H1 _ I1 q1) fun u s2 z2 => ?_
  obtain ⟨x, H2, I2, r2, a, C, ex, T, no, q⟩ := z2
  subst ex
  obtain rfl : u = Value.ref a := r2
  rcases q with ⟨ea, q⟩ | ⟨dx, fs, ea, ed, hl, q⟩
  · exact stG_new T I2 ea no r1 fun dx s' n ne J => ⟨σ, _, J, q dx n ne⟩
  · exact stG_old T I2 ea ed hl no r1 fun s' J => ⟨σ, _, J, q⟩
end WH
namespace WH
open PySem PySem.Spec L2
variable [TabC] [ObjB]
section
variable {X : Cx} {W : XW}
def spExc (C : Addr) (n : Nat) (F : List V → List (Str × V)) : Sp := fun vs H Q _ => ∃ a ws, vs = .ref a :: ws ∧ ws.length = n ∧ H a = some (exo a C none) ∧ ∀ dx, H dx = none → dx ≠ a → Q .non (upd (upd H dx (exd dx (F ws))) a (exo a C (some dx)))
def dRaise (x : Str) (F : List PyData → List (Str × PyData)) (n : Nat) (da : DA) : DS := fun D ρ => da ρ (fun ds => ds.length = n ∧ D.ex (x, F ds) ρ) (D.xd ρ)
@[simp] theorem s_dRaise (x : Str) (F : List PyData → List (Str × PyData)) (n : Nat) (da : DA) (D : DEnds) (ρ : Sto) : dRaise x F n da D ρ ↔ da ρ (fun ds => ds.length = n ∧ D.ex (x, F ds) ρ) (D.xd ρ) := Iff.rfl
theorem raise_heap {H1 : Hp} {a dx C : Addr} {fs : List (Str × V)} (ha : H1 a = none) (hd : dx ≠ a) : upd (L2.del (upd (upd (upd H1 a (exo a C none)) dx (exd dx fs)) a (exo a C (some dx))) a) dx (.xd fs) = upd H1 dx (.xd fs) := by
  funext b
  by_cases h1 : b = dx
  · rw [h1, upd_same, upd_same]
  · rw [upd_ne h1, upd_ne h1]
    by_cases h2 : b = a
    · rw [h2, del_same, ha]
    · rw [del_ne h2, upd_ne h2, upd_ne h1, upd_ne h2]
end
theorem takesN {X : Cx} : L2N.Takes X (fun _ _ _ _ => False) := fun _ _ x => by
  obtain ⟨_, _, _, _, _, _, _, _, _, _, _, _, _, _, _, _, z⟩ := x
  exact z.elim
theorem passN {X : Cx} : Passes (L2N.CX X.prog X.w) X (fun _ _ _ => False) := L2N.passes_call takesN fun _ _ _ _ z => z
theorem pmk_oexN {X : Cx} {CX : CXT} {x : Str} {C fI : Addr} {k : Nat} {fd : FuncData} {ps : List Str} {sp : Sp} {e : Expr} {es : List Expr} {ta : TA} {p pos : Pos} (T : OexG X.K C) (iC : PySem.W.findIn X.K (.ref C) "__init__" = some (some (.ref fI)))
    (tI : PySem.W.typeIn X.K (.ref fI) = some (.type "function")) (F1 : FnOk X.prog X.w X.K X.mg X.base CX k fI fd ps sp) (hr : Room (k + 1) X.A) (hb : Binds X.K fd ps []) (hx : Passes CX X (fun _ _ _ => False)) (hg : Gl X x) (hm : X.mg x = some (.ref C))
    (ha : PA X (e :: es) ta) (hdb : (x == ("__debug__" : Str)) = false) (he : starEach (e :: es) X.env = (false, eval e X.env) :: starEach es X.env) (hpl : (backTo pos (starEach es X.env)).any (·.1) = false) :
    L2N.PMk X (.Call (.Name x p) (e :: es) [] pos) (tMkO C sp [] ta) := fun pins s σ H Q I h => by
  obtain ⟨_, tl, _, _, _, _, bm, _, _, _, _, _, _, _, _, _, _, BX, hC, hbm⟩ := T.cls
  obtain ⟨_, _, BF⟩ := BX.base
  refine wpAny_Call_Name_kw (ld_glob I hg hm (PySem.W.callWith_K (h₀ := X.base) I.ok.mod.kin T.kC (thn (ha.run pos pins s σ H _ I h) fun us s1 z => ?_) he hpl) hdb)
  obtain ⟨vs, H1, I1, r1, hz, q1⟩ := z
  refine ⟨I1.kIn, ?_⟩
  obtain ⟨hp, g, dr, tk, os⟩ := s1
  let o1 : Obj := PySem.W.kdv_tup us
  let o2 : Obj := PySem.HandSPX.excO C hp.objs.size
  let h2 : Heap := (hp.push o1).push o2
  have sz : hp.objs.size ≤ hp.objs.size + 1 := Nat.le_succ _
  have hq := q1 (hp.objs.size + 1) (I1.hok.fresh sz)
  rw [List.append_nil] at hq
  have kk : ∀ b o, hp.get? b = some o → h2.get? b = some o := fun b o z => Heap.get?_push_of_some _ (Heap.get?_push_of_some _ z)
  have at2 : h2.get? (hp.objs.size + 1) = some o2 := by heap_get
  have I2 : Inv X pins σ (upd H1 (hp.objs.size + 1) (exo (hp.objs.size + 1) C none)) ⟨h2, g, dr, tk, os⟩ := I1.laid (t' := tk) kk sz (exo_ok at2)
  have r2 : Vals (V.ref (hp.objs.size + 1) :: vs) (Value.ref (hp.objs.size + 1) :: us) := .cons rfl r1
  have hl : (Value.ref (hp.objs.size + 1) :: us).length = ps.length := by
    rw [← r2.length]
    exact F1.len _ _ _ _ hq
  have hus : us.length ≤ sizeLine := by
    rw [← Paired.length r1, sizeLine_eq]
    omega
  have b2 := hb ⟨h2, g, dr, tk, os⟩ (Value.ref (hp.objs.size + 1) :: us) I2.kIn (by rw [List.append_nil]; exact hl)
  rw [List.append_nil] at b2
  have go := F1.run _ X.stack _ _ ⟨Value.ref (hp.objs.size + 1) :: us, []⟩ _ _ _ (fun _ _ _ => False) (hr.make C us []) (I2.env0.make C us []) b2 r2 hq
  refine wpAny_call (PySem.HandSPX.call_own BF (fun Y => refsT_has Y bm hbm) (I1.kIn _ _ hC) (PySem.W.looks_findIn I1.kIn iC) (fun self => PySem.W.bind_fn I1.kIn self tI) hus (codeAny_mono go fun r s' hq' => ?_))
  cases r with
  | error er => exact hx pins σ _ _ er s' I2 hq'
  | ok fl =>
    cases fl with
    | ret u =>
      obtain ⟨v, H2, os2, bare2, un2, hok2, rv, ev, d, fs, ea, ed, hd1, q2⟩ := hq'
      subst ev
      obtain ⟨h3, g2, d2, t2, os'⟩ := s'
      obtain ⟨t0, G, J, kG, ge, hoe, na⟩ := mk_end0 (d2 := d2) (t2 := t2) I1 sz kk un2 hok2 os2 bare2 ea ed hd1
      exact ⟨rv, hp.objs.size + 1, _, _, ⟨G, g2, d2, t2, os'⟩, _, .ref C, some d, rfl, J, kG, ge, hoe, ⟨rfl, rfl, fun vs hv => by cases hv; rfl⟩, rfl, rfl, na, rfl, bare2, raises_own T.exC T.tyC, q2⟩
    | _ => exact False.elim hq'
def Rs (P : Program) (w : World) (K : PySem.W.Frag) (mg : Str → Option Value) (base : Heap) (x : Str) (k n : Nat) (F : List V → List (Str × V)) : Prop := ∃ C, mg x = some (.ref C) ∧ ∀ (X : Cx), X.prog = P → X.w = w → X.K = K → X.mg = mg → X.base = base → Room k X.A → Gl X x →
  ∀ (e : Expr) (es : List Expr) (p pos : Pos) (ta : TA), PA X (e :: es) ta → starEach (e :: es) X.env = (false, eval e X.env) :: starEach es X.env → (backTo pos (starEach es X.env)).any (·.1) = false → L2N.PMk X (.Call (.Name x p) (e :: es) [] pos) (tMkO C (spExc C n F) [] ta)
theorem rs_ve {P : Program} {w : World} {K : PySem.W.Frag} {mg : Str → Option Value} {base : Heap} {x : Str} {C fI : Addr} {k n : Nat} {fd : FuncData} {ps : List Str} {F : List V → List (Str × V)} (T : OexG K C) (iC : PySem.W.findIn K (.ref C) "__init__" = some (some (.ref fI))) (tI : PySem.W.typeIn K (.ref fI) = some (.type "function"))
    (F1 : FnOk P w K mg base (L2N.CX P w) k fI fd ps (spExc C n F)) (hb : L2.Binds K fd ps []) (hm : mg x = some (.ref C)) (hdb : (x == ("__debug__" : Str)) = false := by decide) : Rs P w K mg base x (k + 1) n F := by
  refine ⟨C, hm, fun X h1 h2 h3 h4 h5 hr hg e es p pos ta ha he hpl => ?_⟩
  subst h1 h2 h3 h4 h5
  exact pmk_oexN T iC tI F1 hr hb passN hg hm ha hdb he hpl
section
variable {X : Cx} {W : XW}
theorem qs_raise {x : Str} {j m n : Nat} {F : List V → List (Str × V)} {D : List PyData → List (Str × PyData)} {e : Expr} {es : List Expr} {p p2 pos : Pos} {da : DA} (c : Rs X.prog X.w X.K X.mg X.base x j n F) (hr : Room m X.A) (hj : j ≤ m) (tk : L2N.Takes X W.2) (hw : W.1 = X.mg)
    (hF : ∀ (G : Hp) vs ds, vs.length = n → RpAll X.K G vs ds → DpF X.K G (F vs) (D ds)) (hn : n ≤ 1000) (ha : QA X W (e :: es) da) (hc : X.calm = true := by rfl) (hg : Gl X x := by rfl)
    (he : starEach (e :: es) X.env = (false, eval e X.env) :: starEach es X.env := by rfl) (hpl : (backTo p2 (starEach es X.env)).any (·.1) = false := by rfl) :
    QS X W (.Raise (some (.Call (.Name x p) (e :: es) [] p2)) none pos) (dRaise x D n da) := by
  obtain ⟨C, hm, c⟩ := c
  refine PS.sub (L2N.ps_raise hc tk (c X rfl rfl rfl rfl rfl (hr.mono hj) hg e es p p2 _ ha he hpl)) fun Dn σ H h => ?_
  obtain ⟨G0, H0, G, ρ, Dd, k, h, nx, rt, bk, ct, ex⟩ := h
  refine ⟨G0, H0, G, ρ, _, Dd.xd ρ, k, h, fun G1 H1 vs ds k1 g1 rv q => ?_, xok_of ex⟩
  obtain ⟨hl, q⟩ := q
  have hv : vs.length = n := (rpa_length rv).trans hl
  refine ⟨by omega, fun a ha => ?_⟩
  refine ⟨a, vs, by rw [List.append_nil], hv, upd_same, fun dx hd hda => ⟨rfl, dx, F vs, upd_same, ?_, ?_, ?_⟩⟩
  · rw [upd_ne hda, upd_same]
  · rw [upd_ne hda] at hd
    exact hd
  · rw [upd_ne hda] at hd
    rw [raise_heap ha hda]
    exact ex _ _ σ ρ (x, D ds) (.ref C) (some dx) (k1.share hd) ⟨by rw [hw]; exact hm, dx, _, rfl, upd_same, dpF_mono (same_upd (k1.gh.free hd)) (hF G1 vs ds hv rv)⟩ q
theorem upd_swap {H : Hp} {dx a : Addr} {o1 o2 oa : HO} (h : dx ≠ a) : upd (upd (upd H dx o1) a oa) dx o2 = upd (upd H dx o2) a oa := by
  funext b
  by_cases h1 : b = dx
  · rw [h1, upd_same, upd_ne h, upd_same]
  · rw [upd_ne h1]
    by_cases h2 : b = a
    · rw [h2, upd_same, upd_same]
    · rw [upd_ne h2, upd_ne h2, upd_ne h1, upd_ne h1]
end
def xfV (x : Str) (fs : List Str) (vs : List V) : List (Str × V) := (fs.zip vs).reverse ++ [(("word" : Str), V.str x)]
def xfD (x : Str) (fs : List Str) (ds : List PyData) : List (Str × PyData) := (fs.zip ds).reverse ++ [(("word" : Str), PyData.str x)]
theorem dpF_append {K : PySem.W.Frag} {G : Hp} : ∀ {a b : List (Str × V)} {c d : List (Str × PyData)}, DpF K G a c → DpF K G b d → DpF K G (a ++ b) (c ++ d)
  | _, _, _, _, .nil, h => h
  | _, _, _, _, .cons x t, h => .cons x (dpF_append t h)
theorem dpF_rev {K : PySem.W.Frag} {G : Hp} : ∀ {a : List (Str × V)} {c : List (Str × PyData)}, DpF K G a c → DpF K G a.reverse c.reverse
  | _, _, .nil => .nil
  | _, _, .cons x t => by
    rw [List.reverse_cons, List.reverse_cons]
    exact dpF_append (dpF_rev t) (.cons x .nil)
theorem dpF_zip {K : PySem.W.Frag} {G : Hp} : ∀ (fs : List Str) {vs : List V} {ds : List PyData}, RpAll K G vs ds → DpF K G (fs.zip vs) (fs.zip ds)
  | [], _, _, _ => .nil
  | _ :: _, _, _, .nil => .nil
  | f :: fs, _, _, .cons a t => .cons a (dpF_zip fs t)
theorem xf_ok {K : PySem.W.Frag} (x : Str) (fs : List Str) (n : Nat) : ∀ (G : Hp) vs ds, vs.length = n → RpAll K G vs ds → DpF K G (xfV x fs vs) (xfD x fs ds) := fun G vs ds _ r => dpF_append (dpF_rev (dpF_zip fs r)) (.cons (.str x) .nil)
end WH
namespace WH
open PySem PySem.Spec L2
variable [TabC] [ObjB]
theorem exT_ok {n : String} {bm : List Value} (h : exT n bm = true) : ∃ tl, BsX n tl ∧ refsT tl bm = true := by
  simp only [exT, Bool.or_eq_true, Bool.and_eq_true, beq_iff_eq] at h
  rcases h with ⟨rfl, h⟩ | ⟨rfl, h⟩ | ⟨rfl, h⟩
  · exact ⟨_, bsx_VE, h⟩
  · exact ⟨_, bsx_LE, h⟩
  · exact ⟨_, bsx_IE, h⟩
theorem oexA_ok {K : PySem.W.Frag} {C : Addr} (q : oexA K C = true) : ∃ nw tl nm q N bs bm sn sub ab col dd k0 k1 k2 k3 k5, BsX nw tl ∧ K.lookup C = some (excClassObj nm q C N bs bm true sn sub ab col dd k0 k1 k2 k3 k5 nw) ∧ refsT tl bm = true := by
  unfold oexA at q
  split at q
  · rename_i dd cd sl ho
    split at q
    · rename_i C' bm k0 k1 k2 k3 n k5 hm hs
      simp only [Bool.and_eq_true, beq_iff_eq, Bool.not_eq_true'] at q
      obtain ⟨⟨⟨rfl, hdel⟩, hdi⟩, ht⟩ := q
      obtain ⟨tl, hB, ht⟩ := exT_ok ht
      obtain ⟨nm, bs, mro, ns, qn, hd, sn, sub, ab, col, del⟩ := cd
      dsimp only at hm hdel hdi
      subst hm hdel hdi
      have hsl : sl = #[k0, k1, k2, k3, some (.builtin n), k5] := by
        obtain ⟨l⟩ := sl
        simp only at hs
        rw [hs]
      subst hsl
      exact ⟨n, tl, nm, qn, ns, bs, bm, sn, sub, ab, col, dd, k0, k1, k2, k3, k5, hB, ho, ht⟩
    · cases q
  · cases q
theorem xcB_ok {K : PySem.W.Frag} {x : Str} {fs : List Str} (h : xcB K x fs = true) : XC K x fs := by
  simp only [xcB, Bool.and_eq_true, decide_eq_true_eq, List.all_eq_true] at h
  obtain ⟨⟨⟨⟨⟨⟨⟨h1, h2⟩, h3⟩, h4⟩, h5⟩, h6⟩, h7⟩, h8⟩ := h
  exact ⟨⟨oexA_ok h1, h2, h3, h4, h5⟩, h6, h7, h8⟩
def spL (K : PySem.W.Frag) (mg : Str → Option Value) (C : Ct) : Sp := fun vs H Q _ => PSp K mg C vs H Q fun _ _ _ => False
theorem sqL_nt {K : PySem.W.Frag} {H : Hp} {a : Addr} {xs : List V} (h : SqL K H a xs) : SqL K (nt H) a xs := by
  rcases h with (h | ⟨o, h⟩) | h
  · exact Or.inl (Or.inl (nt_of h fun _ z => by cases z))
  · exact Or.inl (Or.inr ⟨o, nt_of h fun _ z => by cases z⟩)
  · exact Or.inr h
theorem law_sp {K : PySem.W.Frag} {mg : Str → Option Value} {C : Ct} (hC : ∀ (ns : List Int) (R : Slot → Prop), ns.length ≤ 63 → R (.sh (.bool true)) → C [scrD ns] R fun _ => False) (H : Hp) (a : Addr) (ns : List Int) (hl : ns.length ≤ 63) (hS : SqL K H a (ns.map V.int)) (tb : LamX.Tabs TabC.T H) : spL K mg C [.ref a] H (fun v _ => v = .bl true) fun _ _ _ => False := by
  refine ⟨nt H, [scrD ns], fun s => s = .sh (.bool true), fun _ => False, Same.refl _, tb, .cons (.scr (sqL_nt hS)) .nil, hC ns _ hl rfl, fun s v H' r e => ?_, fun _ _ _ _ _ _ _ _ _ _ z => z.elim⟩
  subst e
  obtain ⟨G', _, _, _, _, r⟩ := r
  cases r
  rfl
end WH
namespace WH
open PySem PySem.Spec L2 PyProof.Rows LamX
variable [TabC] [ObjB]
abbrev lamN (X : Cx) (A : Around) (outer : List Env) (s : Shared) (H : Hp) (E : XK) (scope : Scope) (f c' : Addr) : Cx :=
  (lamCx X A outer s H E scope f c').tr [] fun e s' => wpAny (model X.prog X.w) (A.deeper (lamEnv X scope s.heap.objs.size f c')) (leaving (lamEnv X scope s.heap.objs.size f c') e) (fun _ s2 => L2N.CX X.prog X.w outer H s E e s2) (fun e' s2 => L2N.CX X.prog X.w outer H s E e' s2) s'
section
variable {X : Cx} {pins : List (Addr × Obj)} {σ : L2.St} {H : Hp} {s : Shared}
theorem pe_actN {CXg : CXT} {Eg : XK} {Ng : List Str} {qg : Str} {sg : Scope} {g f c' : Addr} {cdg pm ctv : Value} {params : Arguments} {body : Expr} {scope : Scope} {k i : Nat} {a : Str} {pn : List (Addr × Obj)} {xe : Value → Shared → Prop} {V : WX} {E : XK} {tb : TE} {p1 p2 : Pos}
    (I : Inv X pins σ H s) (L : LamS X.env.scope scope) (hf : s.heap.get? f = some (PySem.W.kla_obj "<lambda>" (X.env.qual ++ "<lambda>") params body scope (cloFrom X.env.cells scope.names []) pm c' ctv)) (hfn : H f = none) (hfr : f ∉ frs X.stack)
    (hbind : bindArgs (PySem.W.kla_fn "<lambda>" (X.env.qual ++ "<lambda>") params body scope (cloFrom X.env.cells scope.names []) pm (.ref c') ctv) ⟨[], []⟩ = pure [])
    (tk : L2N.Takes ((cxOf CXg X.prog X.w X.K X.mg X.base Ng qg sg g cdg X.A X.stack s H Eg).tr pn xe) V) (hr : Room (k + 1) (X.A.deeper (envOfC qg sg s.heap.objs.size g cdg)))
    (hbody : ∀ (A : Around) (outer : List Env) (s : Shared) (H : Hp), Room k (A.deeper (lamEnv X scope s.heap.objs.size f c')) → PE (lamN X A outer s H E scope f c') body tb)
    (hN : Ng[i]? = some a) (hv : Vis sg a) (hd : (a == ("__debug__" : Str)) = false) (hcd : (a == ("__classdict__" : Str)) = false) :
    PE ((cxOf CXg X.prog X.w X.K X.mg X.base Ng qg sg g cdg X.A X.stack s H Eg).tr pn xe) (.Call (.Name a p1) [] [] p2)
      (fun σZ HZ Q => σZ[i]? = some (some (.ref f)) ∧ HZ c' = some (CodeO c' (X.env.qual ++ "<lambda>")) ∧ (∀ cls d H', E cls d H' → V cls d σZ H') ∧ tb σ HZ Q) := ⟨fun pinsZ sZ σZ HZ Q IZ h => by
  obtain ⟨hs, hc, hV, ht⟩ := h
  refine wpAny_Call_Name_kw (thn ((pe_var (pos := p1) (i := i) hN hv hd hcd).run pinsZ sZ σZ HZ (fun v H1 => v = .ref f ∧ H1 = HZ) IZ ⟨.ref f, hs, rfl, rfl⟩) fun u s1 z => ?_)
  obtain ⟨v, H1, I1, r1, ev, eH⟩ := z
  subst ev
  rw [eH] at I1
  obtain rfl : u = Value.ref f := r1
  have of1 := I1.base.keep f _ hf hfn hfr (fun z => nomatch (show f ∈ ([] : List Addr) from z))
  refine PySem.W.callWith_F0 ⟨_, _, _, _, of1⟩ ?_
  have un : Un (frs X.stack) [] H HZ s.heap s1.heap := I1.base
  obtain ⟨⟨oc, vs, t, hoc, hdc, hvc⟩, _, _⟩ := I1.hok c' _ hc
  have eB : Env := envOfC qg sg s.heap.objs.size g cdg
  have rc : codeAny (model X.prog X.w) (X.A.deeper (envOfC qg sg s.heap.objs.size g cdg)) (.call (.ref f) ⟨[], []⟩) (CR (L2N.CX X.prog X.w) (envOfC qg sg s.heap.objs.size g cdg :: X.stack) X.prog X.w HZ s1 Q E) s1 := by
    refine PySem.W.kla_callFunE hr.depth of1 rfl L.co L.gen rfl ⟨c', oc, vs, t, rfl, hoc, hdc, hvc⟩ ?_
    rw [hbind]
    refine wpAny_pure (wpAny_newFunctionEnv (fun y hy => (L.own y hy).2) (fun y hy => absurd hy (by simp)) (fun h₁ hns hsb => ⟨I1.nolimit.fresh _ hsb, ?_⟩) L.kind)
    have kp : ∀ b o, s1.heap.get? b = some o → h₁.get? b = some o := fun b o e => hsb.extBut b o (Nat.ne_of_lt (Heap.lt_size e)) (Heap.get?_push_of_some _ e)
    have J0 : Inv (lamCx X (X.A.deeper (envOfC qg sg s.heap.objs.size g cdg)) (envOfC qg sg s.heap.objs.size g cdg :: X.stack) s1 HZ E scope f c') [] σ HZ { s1 with heap := h₁, toks := s1.toks + ([] : List (Str × Value)).length } := lam_start2 I L I1.env0 hr.hd un hns kp
    have J := J0.toTry (fun e s' => wpAny (model X.prog X.w) ((X.A.deeper (envOfC qg sg s.heap.objs.size g cdg)).deeper (lamEnv X scope s1.heap.objs.size f c')) (leaving (lamEnv X scope s1.heap.objs.size f c') e) (fun _ s2 => L2N.CX X.prog X.w (envOfC qg sg s.heap.objs.size g cdg :: X.stack) HZ s1 E e s2) (fun e' s2 => L2N.CX X.prog X.w (envOfC qg sg s.heap.objs.size g cdg :: X.stack) HZ s1 E e' s2) s')
    have z := (hbody (X.A.deeper (envOfC qg sg s.heap.objs.size g cdg)) (envOfC qg sg s.heap.objs.size g cdg :: X.stack) s1 HZ (hr.deeper _)).run [] _ _ HZ Q J ht
    refine PySem.W.kla_codeExpr (wpAny_mono z (fun v s' hq => ?_) fun e s' hq => hq)
    obtain ⟨w', H', J', rv, q⟩ := hq
    exact ⟨w', H', J'.os, J'.bare, J'.base, J'.hok, rv, q⟩
  refine wpAny_call (codeAny_mono rc fun r s' hq => ?_)
  cases r with
  | error e => exact tk e s' (L2N.XE.of_call I1 hV hq)
  | ok fl =>
    cases fl with
    | ret u => exact I1.after hq
    | _ => exact False.elim hq⟩
end
def GivesN (X : Cx) (Ng : List Str) (x : Str) (sg : Scope) (g : Addr) (cdg : Value) (bg : List Stmt) (a : Str) (q : Str) (k : Nat) (TT : (XK → Hp → VK → Prop) → Hp → VK → Prop) : Prop :=
  ∀ (f c' : Addr) (s : Shared) (H : Hp) (Q : VK) (tl : XK → Hp → VK → Prop), Room (k + 1) (X.A.deeper (envOfC x sg s.heap.objs.size g cdg)) →
    (∀ (V : WX) (pn : List (Addr × Obj)) (xe : Value → Shared → Prop) (E : XK) (p1 p2 : Pos), L2N.Takes ((cxOf L2.CX0 X.prog X.w X.K X.mg X.base Ng x sg g cdg X.A X.stack s H L2.E0).tr pn xe) V →
      PE ((cxOf L2.CX0 X.prog X.w X.K X.mg X.base Ng x sg g cdg X.A X.stack s H L2.E0).tr pn xe) (.Call (.Name a p1) [] [] p2) (fun σZ HZ Q => σZ[0]? = some (some (.ref f)) ∧ HZ c' = some (CodeO c' q) ∧ (∀ cls d H', E cls d H' → V cls d σZ H') ∧ tl E HZ Q)) →
    H c' = some (CodeO c' q) → TT tl H Q →
    ∃ t, PSs (cxOf L2.CX0 X.prog X.w X.K X.mg X.base Ng x sg g cdg X.A X.stack s H L2.E0) bg t ∧ t { nx := fun _ H' => Q .non H', rt := Q } (L2.start Ng [.ref f]) H
section
variable {X : Cx}
theorem pe_lamN {T : List (Addr × Str)} {TT : (XK → Hp → VK → Prop) → Hp → VK → Prop} {x a : Str} {g c P : Addr} {k : Nat} {pg : Arguments} {bg : List Stmt} {sg : Scope} {dV kV doc pm cdv ct oc : Value} {an od : Option Addr} {osl : Array (Option Value)} {Ng : List Str}
    {params : Arguments} {body : Expr} {scope : Scope} {t : XK → TE} {p lpos pos : Pos} (hg : Gl X x) (hm : X.mg x = some (.ref g)) (hk : PySem.W.keepIn X.K (.ref g) = true)
    (lk : X.K.lookup g = some ⟨oc, od, .func (PySem.W.fnOf x x pg bg sg dV kV doc pm an cdv ct), osl⟩) (hcg : PySem.W.codeIn X.K cdv x = true) (hb : L2.Binds X.K (PySem.W.fnOf x x pg bg sg dV kV doc pm an cdv ct) [a] []) (Sg : FnScope Ng [a] sg) (hNg : Ng[0]? = some a) (hva : Vis sg a)
    (hG : GivesN X Ng x sg g cdv bg a (X.env.qual ++ "<lambda>") k TT)
    (TB : TabB X.base X.mg c P) (hcode : X.env.code = .ref c) (hmT : (P, X.env.qual ++ "<lambda>") ∈ T) (hu : ∀ p ∈ T, p.1 = P → p.2 = X.env.qual ++ "<lambda>") (hr : Room (k + 2) X.A) (L : LamS X.env.scope scope) (hdef : defaultsOf params X.env = ([], []))
    (hbind : ∀ (q : Str) (cl : List (Str × Addr)) (pm cv ctv : Value), bindArgs (PySem.W.kla_fn "<lambda>" q params body scope cl pm cv ctv) ⟨[], []⟩ = pure [])
    (hbody : ∀ (A : Around) (outer : List Env) (s : Shared) (H : Hp) (E : XK) (f c' : Addr), Room k (A.deeper (lamEnv X scope s.heap.objs.size f c')) → PE (lamN X A outer s H E scope f c') body (t E))
    (hdb : (x == ("__debug__" : Str)) = false) (hd : (a == ("__debug__" : Str)) = false) (hcd : (a == ("__classdict__" : Str)) = false) :
    PE X (.Call (.Name x p) [.Lambda params body scope lpos] [] pos) (tLam T TT t) := ⟨fun pins s σ H Q I h => by
  obtain ⟨hT, h⟩ := h
  refine wpAny_Call_Name_kw (ld_glob I hg hm ?_ hdb)
  refine PySem.W.callWith_K (h₀ := X.base) I.ok.mod.kin hk ?_ (by rfl) (by rfl)
  refine Calls.spliced_cons (lam_make2 I TB hcode hmT hu hT hdef (L.has I.ok) fun f c' pm' ctv H1 s' I1 eN T1 hf hfn hfr hco => ?_)
  refine Calls.spliced_nil ⟨I1.kIn, ?_⟩
  have rc : codeAny (model X.prog X.w) X.A (.call (.ref g) ⟨[.ref f], []⟩) (CR L2.CX0 X.stack X.prog X.w H1 s' Q L2.E0) s' :=
    run_ofS (N := Ng) (ps := [a]) (us := [.ref f]) (vs := [.ref f]) lk hcg Sg hr I1.env0 (hb s' [.ref f] I1.kIn rfl) (.cons rfl .nil) rfl fun hr' =>
      hG f c' s' H1 Q (fun E H' Q' => t E σ H' Q') hr' (fun V pn xe E p1 p2 tk => pe_actN (i := 0) I1 L hf hfn hfr (hbind _ _ _ _ _) tk hr' (fun A outer s H hr2 => hbody A outer s H E f c' hr2) hNg hva hd hcd) hco (h H1 eN T1)
  refine wpAny_call (codeAny_mono rc fun r s2 hq => ?_)
  cases r with
  | error e => exact (show False from hq).elim
  | ok fl =>
    cases fl with
    | ret u => exact I1.after hq
    | _ => exact False.elim hq⟩
end
end WH
namespace WH
open PySem PySem.Spec L2 PyProof.Rows
variable [TabC] [ObjB]
theorem flyZ_keeps {B h h' : Heap} {l : List Env} {e : Addr} {Z : Obj → Prop} (R : HandSPX.FlyingZ B l e Z h) (k : ∀ b o, h.get? b = some o → h'.get? b = some o) : HandSPX.FlyingZ B l e Z h' := by
  obtain ⟨f1, f2, f3, oe, ws, T, oT, ts, he, hz, hd, h1, hn, hne, hT, hdT, h3⟩ := R
  exact ⟨fun b o q => k b o (f1 b o q), f2, f3.of_keeps fun b o q _ => ⟨o, k b o q, rfl⟩, oe, ws, T, oT, ts, k _ _ he, hz, hd, h1, hn, hne, k _ _ hT, hdT, h3⟩
section
variable {X : Cx}
theorem suite_ty {a : Addr} {oe : Obj} {pn : List (Addr × Obj)} {σ : L2.St} {H : Hp} {s : Shared} {cls : Value} {M : Model} (S : Inv (X.suite a ((a, oe) :: pn)) [] σ H s) (hc : oe.cls = cls) : PySem.W.Looks M s.heap (typeOf (.ref a)) cls := fun A Q E s2 k q =>
  wpAny_typeOf_ref (k _ _ (S.pin (a, oe) (List.mem_append.mpr (.inl List.mem_cons_self))).1) (by rw [hc]; exact q)
theorem tst1 {x : Str} {c : Value} {np : Pos} (hm : X.mg x = some c) (hg : Gl X x) (hdb : (x == ("__debug__" : Str)) = false) : Tst X (.Name x np) [c] := fun a oe pn σ H s cls b S hc he Q E q => by
  obtain ⟨b1, d1, e1, e2, rfl⟩ := PySem.W.exmAny_cons he
  cases e2
  rw [Bool.or_false] at q
  exact ld_glob (X := X.suite a ((a, oe) :: pn)) S hg hm ((PySem.W.exm_one S.kIn (suite_ty S hc) e1).here (q s.heap fun _ _ z => z)) hdb
theorem tst3 {x y z : Str} {c1 c2 c3 : Value} {p1 p2 p3 tp : Pos} {kk : Nat} (m1 : X.mg x = some c1) (m2 : X.mg y = some c2) (m3 : X.mg z = some c3) (g1 : Gl X x) (g2 : Gl X y) (g3 : Gl X z) (d1 : (x == ("__debug__" : Str)) = false) (d2 : (y == ("__debug__" : Str)) = false) (d3 : (z == ("__debug__" : Str)) = false) :
    Tst X (.Tuple [.Name x p1, .Name y p2, .Name z p3] kk tp) [c1, c2, c3] := fun a oe pn σ H s cls b S hc he Q E q => by
  have ld : ∀ {v : Str} {c : Value} {np : Pos} {Q : Value → Shared → Prop}, Gl X v → X.mg v = some c → (v == ("__debug__" : Str)) = false → Q c s → wpAny (model X.prog X.w) (X.A.mark (some (.ref a))) (eval (.Name v np) X.env) Q E s := fun {v c np Q} g m d h => ld_glob (X := X.suite a ((a, oe) :: pn)) S g m h d
  refine wpAny_Tuple (wpAny_items_cons (ld g1 m1 d1 (wpAny_items_cons (ld g2 m2 d2 (wpAny_items_cons (ld g3 m3 d3 (wpAny_items_nil ⟨by size_fits, ?_⟩)))))))
  have kp : ∀ u o, s.heap.get? u = some o → (s.heap.push { cls := .type "tuple", data := .seq [c1, c2, c3].toArray }).get? u = some o := fun _ _ h => Heap.get?_push_of_some _ h
  exact (PySem.W.exm_tup3 (S.kIn.keeps kp) ((suite_ty S hc).keeps kp) (Heap.get?_push_size s.heap rfl) he).here (q _ kp)
end
abbrev asEnds (i : Nat) (D : Ends) : Ends := { nx := fun σ' H' => D.nx (σ'.set i none) H', rt := D.rt, bk := fun σ' H' => D.bk (σ'.set i none) H', ct := fun σ' H' => D.ct (σ'.set i none) H' }
def wAll (K : PySem.W.Frag) (i : Nat) (D : Ends) : List (List Value × (Addr → Value → Option Addr → TS)) → WX
  | [] => fun _ _ _ _ => False
  | (cs, ts) :: r => fun cls d σ H => ∃ b, PySem.W.exmAny K cls cs = some b ∧ (b = true → ∀ a, H a = none → ts a cls d (asEnds i D) (σ.set i (some (.ref a))) H) ∧ (b = false → wAll K i D r cls d σ H)
theorem ps_tryA {X : Cx} {n : Str} {i : Nat} {body : List Stmt} {h0 : ExceptHandler} {hds : List ExceptHandler} {l : List (List Value × (Addr → Value → Option Addr → TS))} {pos : Pos} {tb : WX → TS} (hs : X.stack = X.env :: X.outer) (hf : X.env.frame = some X.env.locals)
    (hN : X.N.Nodup) (hi : X.N[i]? = some n) (hln : X.env.kindOf n = some .local)
    (hb : ∀ (W : WX) (pn : List (Addr × Obj)) (xe : Value → Shared → Prop), L2N.Takes (X.tr pn xe) W → PassesOwn (model X.prog X.w) X.A X.env xe → PSs (X.tr pn xe) body (tb W))
    (hh : Hds X n (h0 :: hds) l) : PS X (.Try body (h0 :: hds) [] [] pos) (fun D σ H => tb (wAll X.K i D l) D σ H) := ⟨fun pins s σ H D I h => by
  have ok := I.ok
  have hfr : X.A.frames = some (X.env :: X.outer) := by rw [ok.frames, hs]
  have hloc : Loc X.env.scope n := .inl hln
  refine wpAny_Try_except ?_
  have hB := hb (wAll X.K i D l) (X.pn ++ pins) (fun e s₁ => wpAny (model X.prog X.w) X.A (noteFrame e X.env) (fun _ s₂ => wpAny (model X.prog X.w) X.A (setFlight e none) (fun _ s₃ => wpAny (model X.prog X.w) X.A (handleBy e X.env (h0 :: hds)) (SP X pins D) X.xe s₃) X.xe s₂) X.xe s₁)
  refine wpAny_mono ((hB (fun u s' xx => ?_) PassesOwn.looking).run [] s σ H D (I.toTry _) h) (fun f s1 hsp => ?_) (fun e s1 he => he)
  · obtain ⟨a, B, sI, pins', σ', H', cls, d, rfl, J', nb, up, sky, na, os, ag, w⟩ := xx
    have J : Inv X pins σ' H' sI := J'.ofTry ok
    have sky' : Sky B (X.env :: X.outer) a (L2N.Zn cls d) X.env.locals s'.heap := by rw [← hs]; exact sky
    show wpAny (model X.prog X.w) X.A (noteFrame (.ref a) X.env) _ _ _
    refine L2N.Sky.land L2N.Zn.steady hfr hf sky' fun h3 fl3 up3 => ?_
    have go : ∀ {hds' : List ExceptHandler} {l' : List (List Value × (Addr → Value → Option Addr → TS))}, Hds X n hds' l' → wAll X.K i D l' cls d σ' H' → ∀ h3 : Heap, HandSPX.FlyingZ B (X.env :: X.outer) a (L2N.Zn cls d) h3 → s'.heap.UpToSlots h3 →
        wpAny (model X.prog X.w) X.A (handleBy (.ref a) X.env hds') (SP X pins D) X.xe { s' with heap := h3 } := by
      intro hds' l' hk
      induction hk with
      | nil => intro w; exact w.elim
      | @cons te cs ts b0 suite pos' hds2 l2 ht hsu r ih =>
        intro w h3 fl3 up3
        obtain ⟨b, hb1, hyes, hno⟩ := w
        have J3 : Inv X pins σ' H' { s' with heap := h3 } := J.landed nb fl3.1 (up.trans up3) os ag
        obtain ⟨oe3, vs3, he3, hz3, hd3⟩ := fl3.there
        have nfr : a ∉ frs (X.env :: X.outer) := fun hm => by
          obtain ⟨_, o', e', hnf⟩ := fl3.2.2.1.mem hm
          rw [he3] at e'
          cases e'
          exact hnf _ hd3
        have nL : a ≠ X.env.locals := fun z => nfr (List.mem_filterMap.mpr ⟨X.env, List.mem_cons_self, by rw [hf, z]⟩)
        have nF : a ∉ X.fs := fun hm => by
          obtain ⟨e, he, q⟩ := List.mem_filterMap.mp hm
          exact nfr (List.mem_filterMap.mpr ⟨e, List.mem_cons_of_mem _ he, q⟩)
        have S3 := J3.suite he3 hd3 na nL nF
        refine wpAny_handleBy_cons (codeAny_handlers_test (ht a oe3 (X.pn ++ pins) σ' H' _ cls b S3 hz3.1 hb1 _ _ fun h5 kp => ?_)) (by intro q; cases q)
        have fl5 := flyZ_keeps fl3 kp
        have up5 : s'.heap.UpToSlots h5 := up3.trans (Heap.UpToSlots.of_keeps kp)
        cases b with
        | true =>
          refine codeAny_handlers_suite_as (HandSPX.lands_againZ fl5 fun h4 fl4 up4 => ?_)
          have J4 : Inv X pins σ' H' { s' with heap := h4 } := J.landed nb fl4.1 ((up.trans up5).trans up4) os ag
          obtain ⟨oe4, vs4, he4, hz4, hd4⟩ := fl4.there
          have S4 := J4.suite he4 hd4 na nL nF
          refine store_ok (X := X.suite a ((a, oe4) :: (X.pn ++ pins))) (v := .ref a) S4 hN hi hloc rfl (fun s5 S5 => ?_) (.inr hln)
          refine wpAny_mono ((hsu a oe4 cls d (X.pn ++ pins) hz4 ⟨_, hd4⟩).run [] s5 _ H' _ S5 (hyes rfl a na)) (fun f s6 hsp => ?_) (fun _ _ z => False.elim z)
          have fin : ∀ {σ6 : L2.St} {H6 : Hp} {Q : Shared → Prop}, Inv (X.suite a ((a, oe4) :: (X.pn ++ pins))) [] σ6 H6 s6 → (∀ s7, Inv X pins (σ6.set i none) H6 s7 → Q s7) →
              wpAny (model X.prog X.w) X.A (do bindName X.env n .none; unbindBehindTheSuite X.env n pos') (fun _ s7 => Q s7) X.xe s6 := fun {σ6 H6 Q} S6 hq => gone_ok (S6.unsuite ok) hN hi hln hq
          cases f with
          | ret u =>
            obtain ⟨v6, σ6, H6, S6, r6, q6⟩ := hsp
            exact fin S6 fun s7 J7 => ⟨_, _, _, J7, r6, q6⟩
          | _ =>
            obtain ⟨σ6, H6, S6, q6⟩ := hsp
            exact fin S6 fun s7 J7 => ⟨_, _, J7, q6⟩
        | false => exact ih (hno rfl) h5 fl5 up5
    exact go hh w h3 fl3 up3
  · cases f with
    | next =>
      obtain ⟨σ', H', J', q⟩ := hsp
      exact wpAny_execs_nil ⟨σ', H', J'.ofTry ok, q⟩
    | ret u =>
      obtain ⟨v, σ', H', J', r, q⟩ := hsp
      exact ⟨v, σ', H', J'.ofTry ok, r, q⟩
    | _ =>
      obtain ⟨σ', H', J', q⟩ := hsp
      exact ⟨σ', H', J'.ofTry ok, q⟩⟩
end WH
namespace WH
open PySem PySem.Spec L2 PyProof.Rows HotX L2H
section
variable {prog : Program} {w : World} {A : Around} {E : Value → Shared → Prop} {s : Shared}
theorem next_end_hot {it l x1 : Addr} {i : Nat} {items : Array Value} {Q : Value → Shared → Prop} (hot : HotAt A x1 s.heap) (nx : x1 ≠ it) (hit : s.heap.IsListIter it l i) (hl : s.heap.IsList l items) (hx : items[i]? = none)
    (hE : ∀ h' e, Heap.ExtBut it s.heap h' → (∃ o, h'.get? e = some o ∧ o.cls = .type "StopIteration") → E (.ref e) { s with heap := h' }) :
    wpAny (model prog w) A (Builtin.SmallTypes.nextOf (.ref it)) Q E s := by
  obtain ⟨o, ho, hc, hd⟩ := id hit
  obtain ⟨ol, hol, _, nl, hdl⟩ := hl
  obtain ⟨hh, o1, vs1, h1, d1, c1⟩ := hot
  unfold Builtin.SmallTypes.nextOf
  refine wpAny_bind (wpAny_callSpecial?_slot (name := Str.ofString "__next__") hit.typeIs slot_listiter_next (wpAny_call_entry slot_listiter_next hit.typeIs entry_listiter_next ?_ (args_listiter_next _)))
  show wpAny _ _ (field (.ref it) 0 >>= _) _ _ s
  refine wpAny_bind (wpAny_field ho hd (x := .ref l) rfl ?_)
  show wpAny _ _ (if (Value.ref l == Value.none) = true then _ else _) _ _ s
  rw [if_neg (show ¬ ((Value.ref l == Value.none) = true) from Bool.false_ne_true)]
  show wpAny _ _ (field (.ref it) 1 >>= _) _ _ s
  refine wpAny_bind (wpAny_field ho hd (x := .int i 0) rfl ?_)
  show wpAny _ _ (seqItems? (.ref l) >>= _) _ _ s
  refine wpAny_bind (wpAny_seqItems hol hdl ?_)
  simp only [Int.toNat_natCast, hx]
  refine wpAny_bind (wpAny_rule (wpAny_bind (wpAny_setField ho hd (by simp) ?_)))
  show wpAny _ _ (newExc (.type "StopIteration") [] >>= _) _ _ _
  refine wpAny_bind ?_
  simp only [newExc, newTuple]
  refine wpAny_bind (wpAny_newObj_type ?_ (by size_fits))
  refine wpAny_bind (m := firstArgMember _ _) (wpAny_of_eq (a := Value.none) (by first | rfl | (simp only [firstArgMember]; rfl)) ?_)
  refine wpAny_newObj_type ?_ (by size_fits)
  have g1 : (s.heap.update it (Obj.mapFields (·.setIfInBounds 0 Value.none))).get? x1 = some o1 := by rw [Heap.get?_update_other _ _ nx.symm]; exact h1
  refine raiseNew_hot ⟨hh, o1, vs1, Heap.get?_push_of_some _ (Heap.get?_push_of_some _ g1), d1, c1⟩ (Nat.ne_of_lt (Heap.lt_size (Heap.get?_push_of_some _ g1))) (Heap.get?_push_size _ rfl) rfl (by first | (simp; done) | (simp; omega) | (simp only [Array.size_append]; simp; omega)) ?_
  refine hE _ _ (fun b u nb e => ?_) ⟨_, Heap.get?_update_self _ (Heap.get?_push_size _ rfl) rfl, rfl⟩
  have g2 : (s.heap.update it (Obj.mapFields (·.setIfInBounds 0 Value.none))).get? b = some u := by rw [Heap.get?_update_other _ _ (Ne.symm nb)]; exact e
  rw [Heap.get?_update_other _ _ (Nat.ne_of_gt (Heap.lt_size (Heap.get?_push_of_some _ g2)))]
  exact Heap.get?_push_of_some _ (Heap.get?_push_of_some _ g2)
theorem zip_end_hot {z TI TO i1 i2 l1 l2 x1 : Addr} {k1 : Nat} {xs : Array Value} {a b : Value} {Q : Option Value → Shared → Prop} (hot : HotAt A x1 s.heap) (n1 : x1 ≠ z) (n2 : x1 ≠ i1) (D : ZipApart z TI TO i1 i2 l1 l2)
    (hz : IsZip s.heap z TI TO .none) (hTI : IsPair s.heap TI (.ref i1) (.ref i2)) (hTO : IsPair s.heap TO a b)
    (h1 : s.heap.IsListIter i1 l1 k1) (hl1 : s.heap.IsList l1 xs) (hend : xs[k1]? = none)
    (hQ : ∀ h', (∀ c o, c ≠ z → c ≠ TO → c ≠ i1 → c ≠ i2 → s.heap.get? c = some o → h'.get? c = some o) → Q none { s with heap := h' }) : wpAny (model prog w) A (pyNext (.ref z)) Q E s := by
  have hT : s.TypeIs (.ref z) "zip" := ⟨_, hz, rfl⟩
  unfold pyNext
  refine wpAny_bind (wpAny_attempt (wpAny_callSpecial?_slot (name := Str.ofString "__next__") hT F.slot_zip_next (wpAny_call_entry F.slot_zip_next hT F.entry_zip_next ?_ (F.args_zip_next_1 _))))
  show wpAny _ _ (field (.ref z) 2 >>= _) _ _ _
  refine wpAny_bind (wpAny_field hz rfl (x := .bool false) rfl ?_)
  show wpAny _ _ (field (.ref z) 3 >>= _) _ _ _
  refine wpAny_bind (wpAny_field hz rfl (x := .ref TI) rfl ?_)
  refine wpAny_bind (wpAny_seqItems hTI rfl ?_)
  show wpAny _ _ (Builtin.SmallTypes.ownedTupleIsFree (.ref z) >>= _) _ _ _
  refine wpAny_bind ?_
  unfold Builtin.SmallTypes.ownedTupleIsFree
  refine wpAny_bind (wpAny_field hz rfl (x := .none) rfl (wpAny_pure ?_))
  simp only [if_true]
  refine wpAny_bind (wpAny_rule ?_)
  refine wpAny_bind (wpAny_field hz rfl (x := .ref TO) rfl ?_)
  refine wpAny_bind (wpAny_setField_rec hz (by simp) fun h₁ hz₁ hs₁ => ?_)
  replace hz₁ : IsZip h₁ z TI TO .ellipsis := hz₁
  refine wpAny_bind ?_
  simp only [List.zipIdx_cons, List.zipIdx_nil, List.forIn_cons, List.forIn_nil]
  refine wpAny_bind (wpAny_bind (wpAny_onRaise ?_))
  show wpAny _ _ (Builtin.SmallTypes.nextOf (.ref i1) >>= _) _ _ _
  obtain ⟨hh, o1, vs1, g1, d1, c1⟩ := hot
  have hot1 : HotAt A.in1 x1 h₁ := ⟨hh, o1, vs1, hs₁.extBut _ _ n1 g1, d1, c1⟩
  refine wpAny_bind (next_end_hot (s := { s with heap := h₁ }) hot1 n2 (h1.extBut hs₁.extBut D.i1z) (hl1.extBut hs₁.extBut D.l1z) hend fun h₂ e hs₂ he => ?_)
  obtain ⟨oe, hoe, hce⟩ := he
  have hz₂ : IsZip h₂ z TI TO .ellipsis := hs₂ _ _ D.i1z.symm hz₁
  have hez : e ≠ z := fun x => by subst x; rw [hz₂] at hoe; cases hoe; simp at hce
  refine wpAny_setField_rec hz₂ (by simp) fun h₃ _ hs₃ => ?_
  refine wpAny_bind (wpAny_isInstance (T := "StopIteration") (b := true) ⟨oe, hs₃.extBut _ _ hez hoe, hce⟩ isSubtype_stop ?_)
  exact wpAny_pure (hQ _ fun c o c1 _ c3 _ x => hs₃.extBut _ _ c1 (hs₂ _ _ c3 (hs₁.extBut _ _ c1 x)))
end
def ItzF (K : PySem.W.Frag) (a b : Addr) : It :=
  ⟨(Itz K a b).go, (Itz K a b).yld, fun i H => ∃ xs ys : List V, SqL K H a xs ∧ SqL K H b ys ∧ xs.length ≤ i⟩
theorem turn_zipH {P : Program} {w : World} {K : PySem.W.Frag} {elts : List Expr} {kk : Nat} {tpos : Pos} {a b z TI TO i1 i2 : Addr} (D : ZipApart z TI TO i1 i2 a b) :
    TurnH P w K (.Tuple elts kk tpos) (ItzF K a b) [z, TI, TO, i1, i2] z (fun i h => IsZip h z TI TO .none ∧ IsPair h TI (.ref i1) (.ref i2) ∧ (∃ x y, IsPair h TO x y) ∧ h.IsListIter i1 a i ∧ h.IsListIter i2 b i) where
  mem := by simp
  obj := (turn_zip (P := P) (w := w) (K := K) (elts := elts) (kk := kk) (tpos := tpos) D).obj
  keep := (turn_zip (P := P) (w := w) (K := K) (elts := elts) (kk := kk) (tpos := tpos) D).keep
  item := by
    intro X hP hw hK hc i pins s σ H E I hf st hg
    subst hP hw hK
    obtain ⟨hz, hTI, ⟨x0, y0, hTO⟩, h1, h2⟩ := st
    obtain ⟨xs, ys, x, y, hqx, hqy, hx, hy⟩ := hg
    obtain ⟨its, rv, p, _⟩ := I.list hqx
    obtain ⟨its2, rv2, p2, _⟩ := I.list hqy
    obtain ⟨u, hu, ru⟩ := rv.get hx
    obtain ⟨u2, hu2, ru2⟩ := rv2.get hy
    have hzl : z < s.heap.objs.size := Heap.lt_size hz
    refine wpAny_pyNext_zip_item D hz hTI hTO h1 h2 p.isList p2.isList (x := u) (y := u2) (by simpa using hu) (by simpa using hu2) fun h' z' TO' h1' h2' hT hsz hk => ?_
    refine ⟨_, rfl, wpAny_letOwnedTupleGo_zip (s := { s with heap := h' }) z' fun h3 z3 sb => ?_⟩
    have hT2 : h3.get? s.heap.objs.size = some { cls := .type "tuple", data := .seq #[u, u2] } := (sb.2 _ (Nat.ne_of_gt hzl)).trans hT
    have new : ObjOk X.prog X.w (upd H s.heap.objs.size (.tup [x, y])) h3 s.heap.objs.size (.tup [x, y]) := ⟨by show 2 ≤ sizeLine; decide, [u, u2], .cons ru (.cons ru2 .nil), ⟨_, hT2, rfl, _, rfl⟩⟩
    have I1 : Inv X pins σ (upd H s.heap.objs.size (.tup [x, y])) { s with heap := h3 } := I.turnedNew (t' := s.toks) (ch := [z, TI, TO, i1, i2]) (fun c o hb q => (sb.2 c (fun q' => hb (by simp [q']))).trans (hk c o (fun q' => hb (by simp [q'])) (fun q' => hb (by simp [q'])) (fun q' => hb (by simp [q'])) (fun q' => hb (by simp [q'])) q)) hf (Nat.le_refl _) new
    refine ⟨.ref s.heap.objs.size, _, I1, rfl, ⟨_, x, y, rfl, I.hok.fresh (Nat.le_refl _), rfl, fun l hl => by rw [I.list_inj hl hqx]; exact hx, fun l hl => by rw [I.list_inj hl hqy]; exact hy⟩, ⟨z3, (sb.2 _ D.TIz).trans (hk _ _ D.TIz D.TITO D.TIi1 D.TIi2 hTI), ⟨u, u2, (sb.2 _ D.TOz).trans TO'⟩, h1'.at fun o q => (sb.2 _ D.i1z).trans q, h2'.at fun o q => (sb.2 _ D.i2z).trans q⟩, fun c hcm => ?_⟩
    have hlt : c < s.heap.objs.size := by
      have e' : c = z ∨ c = TI ∨ c = TO ∨ c = i1 ∨ c = i2 := by simpa using hcm
      obtain ⟨_, e1, _⟩ := h1
      obtain ⟨_, e2, _⟩ := h2
      rcases e' with q | q | q | q | q <;> rw [q]
      · exact hzl
      · exact Heap.lt_size hTI
      · exact Heap.lt_size hTO
      · exact Heap.lt_size e1
      · exact Heap.lt_size e2
    rw [upd_ne (Nat.ne_of_lt hlt)]
    exact (hf c hcm).1
  done := by
    intro X hP hw hK hc i pins s σ H E I hf st hg
    subst hP hw hK
    obtain ⟨hz, hTI, ⟨x0, y0, hTO⟩, h1, h2⟩ := st
    obtain ⟨xs, ys, hqx, hqy, hend⟩ := hg
    obtain ⟨its, rv, p, _⟩ := I.list hqx
    have l1 := rv.length
    obtain ⟨pp, ⟨hh, v1, e1, c1⟩, hp⟩ := hc
    have hpin := I.pin pp (List.mem_append_left _ hp)
    have nz : pp.1 ≠ z := (hf z (by simp)).2.2.2.2.2 pp (List.mem_append_left _ hp)
    have ni : pp.1 ≠ i1 := (hf i1 (by simp)).2.2.2.2.2 pp (List.mem_append_left _ hp)
    exact zip_end_hot ⟨hh, pp.2, v1, hpin.1, e1, c1⟩ nz ni D hz hTI hTO h1 p.isList (by simp; omega) fun h' hk => ⟨rfl, I.turnedL (t' := s.toks) (ch := [z, TI, TO, i1, i2]) (fun c o hb q =>
      hk c o (fun q' => hb (by simp [q'])) (fun q' => hb (by simp [q'])) (fun q' => hb (by simp [q'])) (fun q' => hb (by simp [q'])) q) hf⟩
  self := fun A i s Q E st h => wpAny_pyIter_zip st.1 h
def iZipF (K : PySem.W.Frag) (ta : TA) : TI := fun σ H R => ta σ H fun vs H1 => ∃ a b xs ys, vs = [.ref a, .ref b] ∧ SqL K H1 a xs ∧ SqL K H1 b ys ∧ R (ItzF K a b) H1
theorem pi_zipH {X : Cx} {e e2 : Expr} {ta : TA} {p pos tpos : Pos} {elts : List Expr} {kk : Nat} (hg : Gl X "zip") (hm : X.mg "zip" = none) (ha : PA X [e, e2] ta)
    (hs : starEach [e, e2] X.env = (false, eval e X.env) :: starEach [e2] X.env := by rfl) (hpl : (backTo pos (starEach [e2] X.env)).any (·.1) = false := by rfl) :
    PIH X (.Tuple elts kk tpos) (.Call (.Name "zip" p) [e, e2] [] pos) (iZipF X.K ta) := ⟨fun pins s σ H R I h => by
  refine Call_ (ld_blt I hg hm PyProof.Rows.boot_zip (PyProof.Rows.callWith_type1 (thn (ha.run pos pins s σ H _ I h) fun us s1 z => ?_) hs hpl))
  obtain ⟨vs, H1, I1, r1, a, b, xs, ys, ex, hqx, hqy, q⟩ := z
  subst ex
  cases r1 with
  | cons r rr =>
    cases rr with
    | cons r' rr =>
      cases rr
      cases r
      cases r'
      obtain ⟨its, rv, p1, _⟩ := I1.list hqx
      obtain ⟨its2, rv2, p2, _⟩ := I1.list hqy
      have la : a < s1.heap.objs.size := p1.lt
      have lb : b < s1.heap.objs.size := p2.lt
      refine call_zip_2 p1.isList p2.isList fun h' hz hTI hTO h1 h2 hsz hk => wpAny_pyIter_zip hz ?_
      have I2 : Inv X pins σ H1 { s1 with heap := h' } := I1.kept (t' := s1.toks) hk
      refine ⟨s1.heap.objs.size + 4, [s1.heap.objs.size + 4, s1.heap.objs.size + 2, s1.heap.objs.size + 3, s1.heap.objs.size, s1.heap.objs.size + 1], _, _, H1, rfl, I2, turn_zipH (PySem.W.ktu_apart s1.heap.objs.size a b la lb), ⟨hz, hTI, ⟨_, _, hTO⟩, h1, h2⟩, fun c hcm => ?_, q⟩
      have hle : s1.heap.objs.size ≤ c := by
        have e' : c = s1.heap.objs.size + 4 ∨ c = s1.heap.objs.size + 2 ∨ c = s1.heap.objs.size + 3 ∨ c = s1.heap.objs.size ∨ c = s1.heap.objs.size + 1 := by simpa using hcm
        rcases e' with z | z | z | z | z <;> rw [z] <;> first | exact Nat.le_refl _ | exact Nat.le_add_right _ _
      exact I1.fpOk hle (I1.hok.fresh hle)⟩
abbrev blkH (X : Cx) (s : Shared) (H : Hp) (scope : Scope) (ce : Env) (fp : List Addr) : Cx := (X.blk s H scope ce fp).tr X.pn fun _ _ => False
section
variable {X : Cx}
theorem lc_hot {elt tg iter : Expr} {ifs : List Expr} {scope : Scope} {own : List (Str × Nat)} {pos : Pos} {wi : TI} {g : TG} {tt : TT} {te : TE} (hc : HotC X) (hN : X.N.Nodup) (hi : PIH X tg iter wi) (ok : BlkOk X.N X.env.scope scope own)
    (hg : ∀ (s : Shared) (H : Hp) (C : Addr) (cl : List (Str × Addr)) (fp : List Addr), PG (blkH X s H scope (compEnvC scope cl C X.env) fp) tg g) (ht : ∀ (s : Shared) (H : Hp) (C : Addr) (cl : List (Str × Addr)) (fp : List Addr), PTs (blkH X s H scope (compEnvC scope cl C X.env) fp) ifs tt)
    (he : ∀ (s : Shared) (H : Hp) (C : Addr) (cl : List (Str × Addr)) (fp : List Addr), PE (blkH X s H scope (compEnvC scope cl C X.env) fp) elt te) (hs : ∀ x, foldedSetIterable iter X.env x = pure x := by intro _; rfl) :
    PE X (.ListComp elt [⟨tg, iter, ifs, 0⟩] scope pos) (tLc wi g tt te (own.map (·.2))) := ⟨fun pins s σ H Q I h => by
  rw [eval_ListComp]
  have hfree : ∀ y ∈ scope.names, y.2 = .free → ∃ c, X.env.cells.lookup y.1 = some c := fun y hy e => I.ok.has _ (ok.free y hy e)
  refine wpAny_comprehension_free rfl hs (closure_ok hfree) ok.kind (fun y hy e => by rw [ok.uniq y hy, e]) (thn (hi.run pins s σ H _ I h) fun xv s1 hx => thn hx fun itv s2 h2 => ?_)
  obtain ⟨it, fp, tn, J, H2, e, I2, T, st2, f2, q⟩ := h2
  subst e
  refine wpAny_newObj_type (newEnv_comp ?_) (by show 0 ≤ sizeLine; decide)
  generalize hD : s2.heap.objs.size = D
  have hDn : H2 D = none := I2.hok.fresh (Nat.le_of_eq hD)
  obtain ⟨Wv, ⟨m0, w0⟩, turn⟩ := q D hDn
  generalize hs3 : ({ s2 with heap := s2.heap.push { cls := .type "list", data := .seq ([] : List Value).toArray } } : Shared) = s3
  have I3 : Inv X pins σ (upd H2 D (.lst [])) s3 := by
    rw [← hs3]
    refine I2.laid (t' := s2.toks) (fun b o e => Heap.get?_push_of_some _ e) (Nat.le_of_eq hD) ⟨Nat.zero_le _, [], 0, .nil, ?_⟩
    rw [← hD]
    exact Heap.get?_push_size _ rfl
  have h3 : s3.heap = s2.heap.push { cls := .type "list", data := .seq ([] : List Value).toArray } := by rw [← hs3]
  have f3 : ∀ b ∈ fp, FpOk X pins (upd H2 D (.lst [])) b ∧ b < s3.heap.objs.size := fun b hb => by
    obtain ⟨o, e, _⟩ := T.obj _ _ st2 b hb
    have hlt := Heap.lt_size e
    refine ⟨⟨?_, (f2 b hb).2⟩, by rw [h3, Heap.size_push]; exact Nat.lt_succ_of_lt hlt⟩
    rw [upd_ne (by rw [← hD]; exact Nat.ne_of_lt hlt)]
    exact (f2 b hb).1
  have st3 : tn 0 s3.heap := T.keep _ _ _ st2 fun b _ o e => by rw [h3]; exact Heap.get?_push_of_some _ e
  have I4 := block_start I3 ok hN f3
  have pg := hg s3 (upd H2 D (.lst [])) s3.heap.objs.size (cellsFrom (s3.heap.objs.size + 1) scope.names (cloFrom X.env.cells scope.names [])) fp
  have pt := ht s3 (upd H2 D (.lst [])) s3.heap.objs.size (cellsFrom (s3.heap.objs.size + 1) scope.names (cloFrom X.env.cells scope.names [])) fp
  have pe := he s3 (upd H2 D (.lst [])) s3.heap.objs.size (cellsFrom (s3.heap.objs.size + 1) scope.names (cloFrom X.env.cells scope.names [])) fp
  show codeAny _ _ (.compStart (.ListComp elt [⟨tg, iter, ifs, 0⟩] scope pos) 0 (.ref it) (.ref D) (compEnvC scope (cellsFrom (s3.heap.objs.size + 1) scope.names (cloFrom X.env.cells scope.names [])) s3.heap.objs.size X.env)) (compPost (model X.prog X.w) X.A X.xe none _ (.ref D) s3.heap.objs.size) { s3 with heap := pushCells (s3.heap.push { cls := .type "dict", data := .dict #[] }) scope.names }
  have nfp : ∀ b ∈ fp, (upd H2 D (.lst [])) b = none := fun b hb => (f3 b hb).1.1
  have pinC : ∀ p ∈ X.pn, p.1 < s3.heap.objs.size := fun p hp => Heap.lt_size (I3.pin p (List.mem_append_left _ hp)).1
  generalize hce : compEnvC scope (cellsFrom (s3.heap.objs.size + 1) scope.names (cloFrom X.env.cells scope.names [])) s3.heap.objs.size X.env = ce at I4 pg pt pe ⊢
  have cL : ce.locals = s3.heap.objs.size := by subst hce; rfl
  generalize hH3 : upd H2 D (.lst []) = H3 at I3 I4 pg pt pe w0 nfp f3
  generalize hs4 : ({ s3 with heap := pushCells (s3.heap.push { cls := .type "dict", data := .dict #[] }) scope.names } : Shared) = s4 at I4 ⊢
  have k34 : ∀ b o, s3.heap.get? b = some o → s4.heap.get? b = some o := fun b o e => by rw [← hs4]; exact pushCells_keeps _ _ _ _ (Heap.get?_push_of_some _ e)
  have st4 : tn 0 s4.heap := T.keep _ _ _ st3 fun b _ o e => k34 b o e
  have J4 : Inv (blkH X s3 H3 scope ce fp) [] (wipe σ (own.map (·.2))) H3 s4 := by
    refine ⟨I4.ok.toTry _ _, I4.os, I4.bare, I4.base, I4.loc, I4.cell, I4.free, I4.freeC, fun p hp => ?_, I4.hok, I4.len⟩
    have hp' : p ∈ X.pn := by simpa using (show p ∈ X.pn ++ ([] : List (Addr × Obj)) from hp)
    obtain ⟨a1, a2, a3, a4, a5⟩ := I3.pin p (List.mem_append_left _ hp')
    refine ⟨k34 _ _ a1, a2, ?_, fun hm => (List.mem_cons.mp (I3.stkSub p.1 hm)).elim a3 a4, a5⟩
    show p.1 ≠ ce.locals
    rw [cL]
    exact Nat.ne_of_lt (pinC p hp')
  have hcB : HotC (blkH X s3 H3 scope ce fp) := hc
  have stat : ∀ {σ' : L2.St} {H' : Hp} {s' : Shared}, Inv (blkH X s3 H3 scope ce fp) [] σ' H' s' → (∀ b ∈ fp, H' b = none) → ∀ b ∈ fp, FpOk (blkH X s3 H3 scope ce fp) [] H' b := fun {σ' H' s'} I' hn b hb =>
    ⟨hn b hb, (I'.ok.exf b hb).1, I'.ok.exfs b hb, .inl hb, fun x c e => (I'.ok.exf b hb).2 x c e, fun p hp => (f3 b hb).1.2.2.2.2.2 p (List.mem_append_left _ (by simpa using (show p ∈ X.pn ++ ([] : List (Addr × Obj)) from hp)))⟩
  have loop : codeAny (model X.prog X.w) X.A (.compLoop (.ListComp elt [⟨tg, iter, ifs, 0⟩] scope pos) 0 (.ref it) (.ref D) ce) (compPost (model X.prog X.w) X.A X.xe none (fun v s' => ∃ w' H', Inv X pins σ H' s' ∧ RelV w' v ∧ Q w' H') (.ref D) s3.heap.objs.size) s4 := by
    refine compLoop_any (fun n s' => ∃ i H', Inv (blkH X s3 H3 scope ce fp) [] (wipe σ (own.map (·.2))) H' s' ∧ tn i s'.heap ∧ (∀ b ∈ fp, H' b = none) ∧ Wv i n H') ?_ m0 ⟨0, H3, J4, st4, nfp, w0⟩
    rintro n s5 ⟨i, H5, I5, st5, n5, w5⟩
    rcases turn i n H5 w5 with ⟨stop, qq⟩ | ⟨go, Nx, hNx, step⟩
    · have td := T.done (blkH X s3 H3 scope ce fp) rfl rfl rfl hcB i [] s5 _ H5 (fun _ _ => False) I5 (stat I5 n5) st5 stop
      refine thnF td fun r s6 z => ?_
      obtain ⟨hr, I6⟩ := z
      subst hr
      have I7 : Inv X pins σ H5 s6 := I3.call' (ch := fp) I6.os I6.base I6.hok I6.bare fun b hb => ⟨(f3 b hb).1.2.2.2.1, (f3 b hb).1.2.1, (f3 b hb).1.2.2.2.2.1, (f3 b hb).1.2.2.2.2.2⟩
      have nC : H5 s3.heap.objs.size = none := by
        have z : H5 ce.locals = none := I6.free
        rw [cL] at z
        exact z
      obtain ⟨m, hn, _⟩ := I6.loc
      have hn : s6.heap.Ns ce.locals m := hn
      rw [cL] at hn
      obtain ⟨f0, f1, f2', f3', f4, f5⟩ := I3.fpOk (Nat.le_refl _) nC
      exact ⟨m, hn, fun h9 sb => ⟨.ref D, H5, I7.turned (t' := s6.toks) (fun b o hb e => (sb.2 b hb).trans e) f0 f1 f3' f4 f5, rfl, qq⟩⟩
    · have ti := T.item (blkH X s3 H3 scope ce fp) rfl rfl rfl hcB i [] s5 _ H5 (fun _ _ => False) I5 (stat I5 n5) st5 go
      refine thnF ti fun r s6 z => ?_
      obtain ⟨u, hr, h6⟩ := z
      subst hr
      refine thnF h6 fun _ s7 z => ?_
      obtain ⟨x, H7, I7, r7, y7, st7, n7⟩ := z
      have I7' := I7.pinned (stat I7 n7) (T.obj _ _ st7)
      refine thnF (pg.run _ s7 _ H7 x u _ I7' r7 (step x H7 y7)) fun _ s8 z => ?_
      obtain ⟨σ8, H8, I8, hw8, q8⟩ := z
      refine thnF (pt.run _ s8 σ8 H8 _ I8 q8) fun b s9 z => ?_
      obtain ⟨H9, I9, q9⟩ := z
      have fin : ∀ {s' : Shared} {H' : Hp}, Inv (blkH X s3 H3 scope ce fp) ([] ++ pinsAt fp s7.heap) σ8 H' s' → Nx H' → ∃ m, m < n ∧ ∃ i H', Inv (blkH X s3 H3 scope ce fp) [] (wipe σ (own.map (·.2))) H' s' ∧ tn i s'.heap ∧ (∀ b ∈ fp, H' b = none) ∧ Wv i m H' := fun {s' H'} I' nx => by
        obtain ⟨m', hm, w'⟩ := hNx H' nx
        have pin' : ∀ b ∈ fp, ∀ o, s7.heap.get? b = some o → s'.heap.get? b = some o ∧ H' b = none := fun b hb o e =>
          let z := I'.pin (b, o) (List.mem_append_right _ (List.mem_append_right _ (mem_pinsAt hb e)))
          ⟨z.1, z.2.1⟩
        have hl : (wipe σ (own.map (·.2))).length = σ8.length := by rw [← hw8, wipe_length]
        refine ⟨m', hm, i + 1, H', (I'.unpinned (pins := [])).weak hl (fun j v e => ?_), T.keep _ _ _ st7 fun b hb o e => (pin' b hb o e).1, fun b hb => ?_, w'⟩
        · rw [← hw8] at e
          exact (wipe_some e).1
        · obtain ⟨o, e, _⟩ := T.obj _ _ st7 b hb
          exact (pin' b hb o e).2
      cases b with
      | false =>
        simp only [Bool.false_eq_true, if_false] at q9 ⊢
        exact fin I9 q9
      | true =>
        simp only [if_true] at q9 ⊢
        refine thnF (pe.run _ s9 σ8 H9 _ I9 q9) fun z s10 zz => ?_
        obtain ⟨yv, H10, I10, r10, acc, hD10, hz10, nx⟩ := zz
        exact app_ok (X := blkH X s3 H3 scope ce fp) I10 hD10 hz10 r10 fun s11 I11 => fin I11 nx
  exact codeAny_compStart_list loop (T.self X.A 0 _ _ _ st4 loop)⟩
end
end WH
namespace WH
open PySem PySem.Spec PySem.W PySem.Calls PyProof.Rows
section
variable {prog : Program} {w : World} {A : Around} {E : Value → Shared → Prop} {s : Shared} {K : PySem.W.Frag} {x D : Addr} {ox : Obj} {od : Option Obj}
theorem findObj_data {C : Addr} {name : Str} {a g : Value} (hc : (clsIn K C).isSome = true) (ha : findIn K (.ref C) name = some (some a)) (hg : specialIn K a "__get__" = some (some g)) (ht : takesIn K a = some true) : findObj K C od name = some (.bind g a) := by
  obtain ⟨cd, hc⟩ := Option.isSome_iff_exists.mp hc
  unfold findObj
  rw [hc, Option.bind_some, ha, Option.bind_some]
  simp [hg, ht]
theorem kin_classO {Q : Option Value → Shared → Prop} (C : L2.ExcC K D) (X : K.In s.heap) (I : InstAt s.heap x ox D od) (h : Q (some (.ref D)) { s with toks := s.toks + 1 }) : wpAny (model prog w) A (getAttr? (.ref x) "__class__") Q E s := by
  have hf : findObj K D od "__class__" = some (.bind (.builtin "getset_descriptor.__get__") (.builtin "object.__class__")) := findObj_data (by obtain ⟨cd, hc, _⟩ := any_some C.hd; rw [hc]; rfl) C.ha C.hn C.ht
  obtain ⟨hp, g, d, t, os⟩ := s
  have L0 := I.type (M := model prog w)
  have L1 := looks_findIn (M := model prog w) X C.hg
  have L2 := looks_findIn (M := model prog w) X C.hk
  have L3 := looks_find (M := model prog w) X I hf
  have sub : Looks (model prog w) hp (isInstance (.ref x) (.type "BaseException")) true := L0.andThen (looks_subIn X C.hs)
  have hx0 : (false && onTheHeap (Value.builtin "BaseException.__getattribute__")) = false := rfl
  have hx2 : (Value.builtin "BaseException.__getattribute__" == Value.builtin "object.__getattribute__") = false := by decide +kernel
  have hx1 : (onTheHeap (Value.ref D) && Value.builtin "BaseException.__getattribute__" == Value.builtin "object.__getattribute__") = false := by rw [hx2]; rfl
  unfold getAttr? getAttrBy? getAttrBy
  refine wpAny_bind (wpAny_mkText (wpAny_bind (wpAny_attempt (wpAny_holding (wpAny_bind (L0.at (wpAny_bind (L1.at ?_))))))))
  show wpAny _ _ (if (onTheHeap (Value.ref D) && Value.builtin "BaseException.__getattribute__" == Value.builtin "object.__getattribute__") = true then _ else _) _ _ _
  rw [hx1, if_neg Bool.false_ne_true]
  unfold getAttrByItsOwn hookBefore
  refine wpAny_bind ?_
  rw [if_pos (show onTheHeap (Value.ref D) = true from rfl)]
  refine L2.at ?_
  refine wpAny_bind (wpAny_attempt (wpAny_holding ?_))
  unfold callGetattribute
  rw [hx0, if_neg Bool.false_ne_true]
  unfold boundAndCalled
  rw [PySem.F.excAttr_ValueError.ga.bind (.ref x)]
  refine wpAny_bind (wpAny_pure ?_)
  show wpAny _ _ (call (.builtin "BaseException.__getattribute__") [.ref x, .str "__class__" t]) _ _ _
  refine wpAny_call (codeAny_call_builtin PySem.F.excAttr_ValueError.ga.plain PySem.F.entry_bexc_ga ?_)
  refine @check_slot (model prog w) _ _ ⟨hp, g, d, t + 1, os⟩ "BaseException.__getattribute__" "BaseException" "__getattribute__" (.ref x) [.str "__class__" t] [] _ (by decide +kernel) (by decide +kernel) sub (PySem.F.args_bexc_ga (.ref x) (.str "__class__" t)) ?_
  unfold Builtin.«object.__getattribute__»
  refine wpAny_bind (wpAny_of_eq (a := ((Value.ref x : Value), [Value.str "__class__" t])) (by first | rfl | (simp only [slotArgs]; rfl)) ?_)
  refine wpAny_bind (wpAny_pure (wpAny_bind (L0.at (wpAny_bind (L3.at ?_)))))
  show wpAny _ _ (holding [Value.builtin "object.__class__"] (call (.builtin "getset_descriptor.__get__") [.builtin "object.__class__", .ref x, .ref D]) >>= ret) _ _ _
  refine wpAny_bind (wpAny_holding (wpAny_call (class_get (s := ⟨hp, g, d, t + 1, os⟩) (ox := ox) (od := od) X I C.hm ?_)))
  refine wpAny_pure ?_
  show wpAny _ _ (handedOut (.ref D)) _ _ _
  rw [handedOut_of (v := .ref D) rfl]
  first
    | exact wpAny_pure (wpAny_pure h)
    | exact wpAny_pure h
    | exact wpAny_pure (wpAny_bind (wpAny_pure (wpAny_pure h)))
theorem kitx_exc (C : L2.ExcC K D) : KitX K (.ref x) (.ref D) (fun h => ∃ od, InstAt h x ox D od) where
  ty := fun _ _ _ ⟨_, I⟩ => I.type
  it := fun _ _ X _ => by
    obtain ⟨cdD, hcD, _⟩ := any_some C.hd
    unfold clsIn at hcD
    split at hcD
    · rename_i c' d' cd' sl' ho
      intro A' Q' E' s' k q
      unfold isType loadHead
      exact wpAny_bind (wpAny_loadPart (k _ _ (X _ _ ho)) (wpAny_pure q))
    · cases hcD
  ne := fun h tp dd its n sl X htp => by
    obtain ⟨cdD, hcD, _⟩ := any_some C.hd
    refine Bool.eq_false_iff.mpr fun q => ?_
    have e : D = tp := Value.ref.inj (beq_iff_eq.mp q)
    subst e
    unfold clsIn at hcD
    split at hcD
    · rename_i c' d' cd' sl' ho
      have z := (X _ _ ho).symm.trans htp
      cases z
    · cases hcD
  ca := fun X ⟨_, I⟩ k => kin_classO C X I k
end
end WH
namespace WH
open PySem PySem.Spec L2 PyProof.Rows L2H
variable [TabC] [ObjB]
section
variable {X : Cx} {W : XW} {a D dd : Addr} {oe : Obj}
theorem ExP.inst {pins : List (Addr × Obj)} {σ : L2.St} {H : Hp} {s : Shared} {fs : List (Str × V)} (P : ExP X a oe D dd) (I : Inv X pins σ H s) (h : H dd = some (.xd fs)) : ∃ (od : Obj) (mA : Str → Option Value), PySem.W.InstAt s.heap a oe D (some od) ∧ (∀ n, PySem.W.lookIn n od = some (mA n)) ∧ ∀ f, RelO (fs.lookup f) (mA f) := by
  obtain ⟨ha, _⟩ := I.pin (a, oe) (List.mem_append_left _ P.pn)
  obtain ⟨vs, hd⟩ := P.f
  have hx : ObjOk X.prog X.w H s.heap dd (.xd fs) := I.hok dd _ h
  obtain ⟨mA, hns, hr⟩ := hx
  obtain ⟨od, ho, hl⟩ := lookIn_ns hns
  exact ⟨od, mA, ⟨ha, P.z.1, by unfold PySem.W.notCls; rw [hd] <;> rfl, by rw [P.z.2.1]; exact ho⟩, hl, hr⟩
def rIsX (K : PySem.W.Frag) (D a dd : Addr) : List V → Hp → VK → Prop := fun xs H Q => ∃ (c : V) (cv : Value) (b : Bool) (fs : List (Str × V)), xs = [.ref a, c] ∧ H dd = some (.xd fs) ∧ (∀ u, RelV c u → u = cv) ∧ PySem.W.kitOne K (.ref D) cv = some b ∧ Q (.bl b) H
theorem call_isX (C : ExcC X.K D) (P : ExP X a oe D dd) : CallR X (.builtin "isinstance") (rIsX X.K D a dd) := by
  intro pins s σ H xs us Q I r h
  obtain ⟨c, cv, b, fs, rfl, hx, hcv, e, q⟩ := h
  cases r with
  | cons rx rr =>
    cases rr with
    | cons rt rr =>
      cases rr
      cases rx
      have ec := hcv _ rt
      subst ec
      obtain ⟨od, mA, J, _⟩ := P.inst I hx
      exact PySem.W.kia_one (kitx_exc C) I.kIn ⟨_, J⟩ e (fun z => nomatch z) fun tk => ⟨.bl b, H, I.kept (t' := tk) fun _ _ z => z, rfl, q⟩
def dIsX (i : Nat) (a dd : Addr) (b : Bool) : DE := fun ρ Q _ => ∃ fs, ρ[i]? = some (Slot.raw (.ref a) (some (dd, fs))) ∧ Q (.bool b)
theorem qe_isX {x c : Str} {i : Nat} {b : Bool} {C : Addr} {p p1 p2 pos : Pos} (C0 : ExcC X.K D) (P : ExP X a oe D dd) (hm : X.mg "isinstance" = none) (hc : X.mg c = some (.ref C)) (hk : PySem.W.kitOne X.K (.ref D) (.ref C) = some b) (hi : X.N[i]? = some x := by rfl) (hv : Vis X.env.scope x := by first | exact .inl rfl | exact .inr (.inl rfl) | exact .inr (.inr rfl))
    (hd1 : (x == ("__debug__" : Str)) = false := by decide) (hd2 : (x == ("__classdict__" : Str)) = false := by decide) (hg : Gl X "isinstance" := by rfl) (hgc : Gl X c := by rfl) (hdc : (c == ("__debug__" : Str)) = false := by decide)
    (he : starEach [.Name x p1, .Name c p2] X.env = (false, eval (.Name x p1) X.env) :: starEach [.Name c p2] X.env := by rfl) (he2 : starEach [.Name c p2] X.env = (false, eval (.Name c p2) X.env) :: starEach [] X.env := by rfl) (hpl : (backTo pos (starEach [.Name c p2] X.env)).any (·.1) = false := by rfl) :
    QE X W (.Call (.Name "isinstance" p) [.Name x p1, .Name c p2] [] pos) (dIsX i a dd b) :=
  PE.sub (pe_callB (call_isX C0 P) hg hm (by decide +kernel) (pa_cons (pe_var (i := i) hi hv hd1 hd2) (pa_cons (pe_glob (v := .ref C) hgc hc rfl hdc) pa_nil he2) he) (by decide) (by decide) he hpl) fun σ H Q h => by
  obtain ⟨G0, H0, G, ρ, Qd, Xd, k, h, fn, xo⟩ := h
  obtain ⟨fs, hr, q⟩ := h
  obtain ⟨r1, r2⟩ := k.rw _ _ _ hr
  obtain ⟨vs, r3, _⟩ := r2 _ rfl
  exact ⟨_, r1, .ref C, .ref C, b, vs, rfl, k.gh _ _ r3, fun u z => z, hk, fn G H _ _ k Gr.refl (.bl _) q⟩
def dXf (i : Nat) (a dd : Addr) (n : Str) : DE := fun ρ Q _ => ∃ fs d, ρ[i]? = some (Slot.raw (.ref a) (some (dd, fs))) ∧ fs.lookup n = some d ∧ Q d
theorem dpF_look {K : PySem.W.Frag} {G : Hp} {n : Str} {d : PyData} : ∀ {vs : List (Str × V)} {fs : List (Str × PyData)}, DpF K G vs fs → fs.lookup n = some d → ∃ v, vs.lookup n = some v ∧ Rp K G v d
  | _, _, .nil, h => by cases h
  | _, _, .cons (k := k) (v := v) (d := d') r t, h => by
    rw [List.lookup_cons] at h ⊢
    cases q : n == k with
    | true => rw [q] at h; cases h; exact ⟨v, rfl, r⟩
    | false => rw [q] at h; exact dpF_look t h
theorem qe_xf {x n : Str} {i : Nat} {p1 pos : Pos} (T : XfC X.K D) (hno : PySem.W.findIn X.K (.ref D) n = some none) (P : ExP X a oe D dd) (hi : X.N[i]? = some x := by rfl) (hv : Vis X.env.scope x := by first | exact .inl rfl | exact .inr (.inl rfl) | exact .inr (.inr rfl))
    (hd1 : (x == ("__debug__" : Str)) = false := by decide) (hd2 : (x == ("__classdict__" : Str)) = false := by decide) (hb : attributeBase (.Name x p1) n X.env (eval (.Name x p1) X.env) = eval (.Name x p1) X.env := by rfl) : QE X W (.Attribute (.Name x p1) n pos) (dXf i a dd n) := ⟨fun pins s σ H Q I h => by
  obtain ⟨G0, H0, G, ρ, Qd, Xd, k, h, fn, xo⟩ := h
  obtain ⟨fs, d, hr, hl, q⟩ := h
  obtain ⟨r1, r2⟩ := k.rw _ _ _ hr
  obtain ⟨vs, r3, r4⟩ := r2 _ rfl
  obtain ⟨v, lv, rv⟩ := dpF_look r4 hl
  refine attr_of hb (thn ((pe_var (pos := p1) (i := i) hi hv hd1 hd2).run pins s σ H (fun y H1 => y = .ref a ∧ H1 = H) I ⟨.ref a, r1, rfl, rfl⟩) fun u s1 hh => ?_)
  obtain ⟨y, H1, I1, rx, ey, eH⟩ := hh
  subst ey
  subst eH
  obtain rfl : u = Value.ref a := rx
  obtain ⟨od, mA, J, hlk, hrl⟩ := P.inst I1 (k.gh _ _ r3)
  obtain ⟨u, hu, ru⟩ := RelO.some_of (v := v) (o := mA n) (by rw [← lv]; exact hrl n)
  exact HandSPX.exc_get I1.kIn J T.ga T.gg T.exC (PySem.W.findObj_own T.hdC hno rfl (by rw [hlk, hu])) (handed_of ru) ⟨v, H1, I1.tok _, ru, fn G H1 v d k Gr.refl rv q⟩⟩
end
end WH
namespace WH
open PySem PySem.Spec L2 PyProof.Rows L2H
variable [TabC] [ObjB]
def zipD (xs ys : List PyData) : List PyData := List.zipWith (fun x y => wk [x, y]) xs ys
theorem zipD_len {xs ys : List PyData} (h : xs.length = ys.length) : (zipD xs ys).length = xs.length := by simp [zipD, h]
theorem zipD_get {xs ys : List PyData} {i : Nat} {d : PyData} (h : (zipD xs ys)[i]? = some d) : ∃ x y, xs[i]? = some x ∧ ys[i]? = some y ∧ d = wk [x, y] := by
  unfold zipD at h
  rw [List.getElem?_zipWith] at h
  cases q : xs[i]? with
  | none => rw [q] at h; cases h
  | some x =>
    cases q2 : ys[i]? with
    | none => rw [q, q2] at h; cases h
    | some y => rw [q, q2] at h; cases h; exact ⟨x, y, rfl, rfl, rfl⟩
theorem iter_zipL {K : PySem.W.Frag} {G : Hp} {a b : Addr} {xs ys : List V} {ds es : List PyData} (h1 : G a = some (.lst xs)) (r1 : RpAll K G xs ds) (h2 : G b = some (.lst ys)) (r2 : RpAll K G ys es) (hl : ds.length = es.length) : IterOk K (ItzF K a b) G (zipD ds es) := fun G1 H1 g gh i => by
  have l1 := rpa_length r1
  have l2 := rpa_length r2
  have q1 : SqL K H1 a xs := SqL.of (nt_some (gh _ _ (g _ _ h1)))
  have q2 : SqL K H1 b ys := SqL.of (nt_some (gh _ _ (g _ _ h2)))
  rw [zipD_len hl]
  refine ⟨fun hi => ⟨xs, ys, xs[i]'(by omega), ys[i]'(by omega), q1, q2, by simp [show i < xs.length by omega], by simp [show i < ys.length by omega]⟩, fun hi => ⟨xs, ys, q1, q2, by omega⟩, fun d x H2 hd hy => ?_⟩
  obtain ⟨T, x, y, rfl, hT, rfl, hx, hy⟩ := hy
  obtain ⟨d1, d2, e1, e2, rfl⟩ := zipD_get hd
  obtain ⟨v1, z1, w1⟩ := rpa_get r1 e1
  obtain ⟨v2, z2, w2⟩ := rpa_get r2 e2
  rw [hx xs q1] at z1
  cases z1
  rw [hy ys q2] at z2
  cases z2
  exact grow_pair gh hT (.cons (rp_mono g w1) (.cons (rp_mono g w2) .nil))
def dZipL (da db : DE) : DI := fun ρ Q X => da ρ (fun x => db ρ (fun y => ∃ xs ys, x = .list xs ∧ y = .list ys ∧ xs.length = ys.length ∧ Q (zipD xs ys)) X) X
@[simp] theorem s_dZipL (da db : DE) (ρ : Sto) (Q : List PyData → Prop) (X : XD) : dZipL da db ρ Q X ↔ da ρ (fun x => db ρ (fun y => ∃ xs ys, x = .list xs ∧ y = .list ys ∧ xs.length = ys.length ∧ Q (zipD xs ys)) X) X := Iff.rfl
def QIH (X : Cx) (W : XW) (tg iter : Expr) (di : DI) : Prop := PIH X tg iter (upI X.K W di)
section
variable {X : Cx} {W : XW}
theorem qi_zipH {e f : Expr} {p pos tpos : Pos} {elts : List Expr} {kk : Nat} {de df : DE} (hm : X.mg "zip" = none) (he : QE X W e de) (hf : QE X W f df) (hg : Gl X "zip" := by rfl) (hs : starEach [e, f] X.env = (false, eval e X.env) :: starEach [f] X.env := by rfl) (hs2 : starEach [f] X.env = (false, eval f X.env) :: starEach [] X.env := by rfl) (hpl : (backTo pos (starEach [f] X.env)).any (·.1) = false := by rfl) :
    QIH X W (.Tuple elts kk tpos) (.Call (.Name "zip" p) [e, f] [] pos) (dZipL de df) := by
  have base := pi_zipH (X := X) (elts := elts) (kk := kk) (tpos := tpos) (p := p) (pos := pos) hg hm (pa_cons he (pa_cons hf pa_nil hs2) hs) hs hpl
  refine ⟨fun pins st σ H R I hw => base.run pins st σ H R I ?_⟩
  obtain ⟨G0, H0, G, ρ, Qd, Xd, k, h, fn, xo⟩ := hw
  refine ⟨G0, H0, G, ρ, _, Xd, k, h, fun G1 H1 v d k1 g1 rv q => ?_, xo⟩
  refine ⟨G0, H0, G1, ρ, _, Xd, k1, q, fun G2 H2 v2 d2 k2 g2 rv2 q2 => ?_, xo.mono g1⟩
  obtain ⟨xs, ys, rfl, rfl, hl, q2⟩ := q2
  have rv' := rp_mono g2.gg rv
  cases rv' with
  | lst a1 a2 =>
    cases rv2 with
    | lst b1 b2 => exact ⟨_, _, _, _, rfl, SqL.of (k2.gh _ _ a1), SqL.of (k2.gh _ _ b1), fn G2 H2 _ _ k2 (g1.trans g2) (iter_zipL a1 a2 b1 b2 hl) q2⟩
theorem qo_lcH {elt tg iter : Expr} {ifs : List Expr} {scope : Scope} {own : List (Str × Nat)} {pos : Pos} {vs ws : List Nat} {di : DI} {dg : DG} {dt : DT} {de : DE} (hc : HotC X) (hN : X.N.Nodup) (hi : QIH X W tg iter di) (ok : BlkOk X.N X.env.scope scope own)
    (hg : ∀ (s : Shared) (H : Hp) (C : Addr) (cl : List (Str × Addr)) (fp : List Addr), QG (blkH X s H scope (compEnvC scope cl C X.env) fp) vs tg dg) (ht : ∀ (s : Shared) (H : Hp) (C : Addr) (cl : List (Str × Addr)) (fp : List Addr), QTs (blkH X s H scope (compEnvC scope cl C X.env) fp) (W0 X.mg) ifs dt)
    (he : ∀ (s : Shared) (H : Hp) (C : Addr) (cl : List (Str × Addr)) (fp : List Addr), QE (blkH X s H scope (compEnvC scope cl C X.env) fp) (W0 X.mg) elt de) (hw : own.map (·.2) = ws := by rfl) (hv : ∀ i ∈ vs, i ∈ ws := by decide) (hs : ∀ x, foldedSetIterable iter X.env x = pure x := by intro _; rfl) :
    QO X W (.ListComp elt [⟨tg, iter, ifs, 0⟩] scope pos) (dLc ws di dg dt de) := by
  subst hw
  exact PE.sub (lc_hot (g := upG X.K vs dg) (tt := upT X.K (W0 X.mg) dt) (te := upE X.K (W0 X.mg) de) hc hN hi ok hg ht he hs) (up_lc hv)
end
end WH
namespace WH
open PySem PySem.Spec L2 PyProof.Rows L2H
variable [TabC] [ObjB]
section
variable {P : Program} {w : World} {K : PySem.W.Frag} {mg : Str → Option Value} {base : Heap}
def HotFn (P : Program) (w : World) (K : PySem.W.Frag) (mg : Str → Option Value) (base : Heap) (k : Nat) (f : Addr) (fd : FuncData) (ps : List Str) (sp : Addr × Obj → List V → Hp → VK → Prop) : Prop :=
  ∀ (A : Around) (outer : List Env) (s : Shared) (H : Hp) (args : Args) (us : List Value) (vs : List V) (Q : VK) (p : Addr × Obj), RoomH k A → Hot1 A p → PinOk outer H s p → Env0 P w K mg base A outer s H → BindsTo s fd args (ps.zip us) → Vals vs us → sp p vs H Q →
    codeAny (model P w) A (.call (.ref f) args) (CR L2.CX0 outer P w H s Q L2.E0) s
theorem fn_hot {x qual : Str} {params : Arguments} {body : List Stmt} {scope : Scope} {dvs : List V} {kws : List (Str × V)} {f : Addr} {fd : FuncData} {N ps : List Str} {k : Nat} {sp : Addr × Obj → List V → Hp → VK → Prop} (F : FunD K x qual params body scope dvs kws f fd) (S : FnScope N ps scope)
    (len : ∀ p vs H Q, sp p vs H Q → vs.length = ps.length)
    (hbody : ∀ (cdv : Value) (A : Around) (outer : List Env) (s : Shared) (H : Hp) (vs : List V) (Q : VK) (p : Addr × Obj), Hot1 A p → RoomH k (A.deeper (envOfC qual scope s.heap.objs.size f cdv)) → sp p vs H Q →
      ∃ t, PSs (cxH L2.CX0 P w K mg base N qual scope f cdv A outer s H L2.E0 p) body t ∧ t { nx := fun _ H' => Q .non H', rt := Q } (L2.start N vs) H) : HotFn P w K mg base (k + 1) f fd ps sp := by
  obtain ⟨oc, od, dV, kV, doc, pm, an, cdv, ct, osl, rfl, lk, hcd, _, _⟩ := F.ex
  intro A outer s H args us vs Q p hr hot hpin e0 hb r hsp
  have hl := len _ _ _ _ hsp
  have KX : K.In s.heap := e0.mod.kin.keeps fun b o e => (e0.bs b o e).1
  have lim : s.heap.NoLimit := e0.mod.nolimit.keeps fun b o e => (e0.bs b o e).1
  have hkind : ∀ y ∈ ps.zip us, scope.names.lookup y.1 = some .local ∨ (scope.names.lookup y.1 = some .cell ∧ ((cellsFrom (s.heap.objs.size + 1) scope.names []).lookup y.1).isSome = true) := fun ⟨n, v⟩ hy => by
    rcases S.par n (List.of_mem_zip hy).1 with q | q
    · exact .inl q
    · exact .inr ⟨q, PySem.W.cellsFrom_some _ _ _ (.inl q)⟩
  refine codeAny_call_function hr.depth (KX _ _ lk) rfl S.co S.gen rfl (PySem.W.codeRec_of KX hcd) (hb _ _ _ _ ?_)
  refine wpAny_newFunctionEnv_cells S.kind hkind fun env he s1 x => ?_
  subst he
  refine ⟨lim.keeps x.toInCall.keep, codeAny_func ?_⟩
  obtain ⟨t, ht, hq⟩ := hbody cdv A outer s H vs Q p hot (hr.deeper _) hsp
  have I := inv_startH (CX := L2.CX0) (E := L2.E0) S hpin e0 hl r x
  refine wpAny_mono (ht.run [] s1 (L2.start N vs) H _ I hq) (fun fl s' hs => ?_) fun e s' hs => hs
  cases fl with
  | ret u =>
    obtain ⟨v, σ', H', J, rv, q⟩ := hs
    exact ⟨v, H', J.os, J.bare, J.base, J.hok, rv, q⟩
  | next =>
    obtain ⟨σ', H', J, q⟩ := hs
    exact ⟨V.non, H', J.os, J.bare, J.base, J.hok, rfl, q⟩
  | brk =>
    obtain ⟨_, _, _, q⟩ := hs
    exact False.elim q
  | cont =>
    obtain ⟨_, _, _, q⟩ := hs
    exact False.elim q
end
theorem ok_startX {K : PySem.W.Frag} {G H : Hp} {n : Str} {N : List Str} {a dd : Addr} {fs : List (Str × PyData)} {vs : List (Str × V)} (gh : Same G (nt H)) (tb : LamX.Tabs TabC.T H) (h1 : G dd = some (.xd vs)) (h2 : DpF K G vs fs) (hB : Same ObjB.B (nt H)) :
    Ok K G H G H (L2.start (n :: N) [.ref a]) (Slot.raw (.ref a) (some (dd, fs)) :: List.replicate N.length Slot.no) := by
  have at0 : ∀ (i : Nat) (s : Slot), (Slot.raw (V.ref a) (some (dd, fs)) :: List.replicate N.length Slot.no)[i]? = some s → (i = 0 ∧ s = Slot.raw (.ref a) (some (dd, fs))) ∨ s = Slot.no := fun i s e => by
    cases i with
    | zero => cases e; exact .inl ⟨rfl, rfl⟩
    | succ i =>
      rw [List.getElem?_cons_succ, List.getElem?_replicate] at e
      split at e <;> cases e
      exact .inr rfl
  refine ⟨gh, Same.refl _, Ex.refl _, tb, fun a o e => .inl e, by simp [L2.start], fun i d e => ?_, fun i o e => ?_, fun i j o u b _ e => ?_, fun i v x e => ?_, fun i a t e => (by rcases at0 i _ e with ⟨_, z⟩ | z <;> cases z), hB⟩
  · rcases at0 i _ e with ⟨_, z⟩ | z <;> cases z
  · rcases at0 i _ e with ⟨_, z⟩ | z <;> cases z
  · rcases at0 i _ e with ⟨_, z⟩ | z <;> cases z
  · rcases at0 i _ e with ⟨z0, z⟩ | z
    · cases z
      subst z0
      exact ⟨rfl, fun q hq => by cases hq; exact ⟨vs, h1, h2⟩⟩
    · cases z
def spCal (K : PySem.W.Frag) (mg : Str → Option Value) (p : Addr × Obj) (vs : List V) (H : Hp) (Q : VK) : Prop :=
  ∃ G fs D dd nm xs, vs = [.ref p.1] ∧ Same G (nt H) ∧ LamX.Tabs TabC.T H ∧ L2N.Zn (.ref D) (some dd) p.2 ∧ (∃ ws, p.2.data = .fields ws) ∧ nm ∈ callNames ∧ CalF K mg nm D ∧ G dd = some (.xd xs) ∧ DpF K G xs fs ∧ fs.lookup ("word" : Str) = some (.str nm) ∧ ∀ v H', RetOk K G H (.sh (.str nm)) v H' → Q v H'
end WH
namespace WH
open PySem PySem.Spec L2 PyProof.Rows HotX L2H
section
variable {prog : Program} {w : World} {A : Around} {E : Value → Shared → Prop} {s : Shared}
theorem next_tup_hot {it t x1 : Addr} {i : Nat} {items : Array Value} {Q : Option Value → Shared → Prop} (hot : HotAt A x1 s.heap) (nx : x1 ≠ it) (hit : s.heap.IsTupleIter it t i) (ht : IsTup s.heap t items) (hx : items[i]? = none)
    (hQ : ∀ h', Heap.ExtBut it s.heap h' → Q none { s with heap := h' }) : wpAny (model prog w) A (pyNext (.ref it)) Q E s := by
  obtain ⟨o, ho, hc, hd⟩ := id hit
  obtain ⟨ol, hol, _, nl, hdl⟩ := ht
  obtain ⟨hh, o1, vs1, h1, d1, c1⟩ := hot
  unfold pyNext
  refine wpAny_bind (wpAny_attempt (wpAny_callSpecial?_slot (name := Str.ofString "__next__") hit.typeIs F.slot_tuple_iterator_next (wpAny_call_entry F.slot_tuple_iterator_next hit.typeIs F.entry_tuple_iterator_next ?_ (F.args_tuple_iterator_next_1 _))))
  show wpAny _ _ (field (.ref it) 0 >>= _) _ _ s
  refine wpAny_bind (wpAny_field ho hd (x := .ref t) rfl ?_)
  show wpAny _ _ (if (Value.ref t == Value.none) = true then _ else _) _ _ s
  rw [if_neg (show ¬ ((Value.ref t == Value.none) = true) from Bool.false_ne_true)]
  show wpAny _ _ (field (.ref it) 1 >>= _) _ _ s
  refine wpAny_bind (wpAny_field ho hd (x := .int i 0) rfl ?_)
  show wpAny _ _ (seqItems? (.ref t) >>= _) _ _ s
  refine wpAny_bind (wpAny_seqItems hol hdl ?_)
  simp only [Int.toNat_natCast, hx]
  refine wpAny_bind (wpAny_rule (wpAny_bind (wpAny_setField ho hd (by simp) ?_)))
  show wpAny _ _ (newExc (.type "StopIteration") [] >>= _) _ _ _
  refine wpAny_bind ?_
  simp only [newExc, newTuple]
  refine wpAny_bind (wpAny_newObj_type ?_ (by size_fits))
  refine wpAny_bind (m := firstArgMember _ _) (wpAny_of_eq (a := Value.none) (by first | rfl | (simp only [firstArgMember]; rfl)) ?_)
  refine wpAny_newObj_type ?_ (by size_fits)
  have g1 : (s.heap.update it (Obj.mapFields (·.setIfInBounds 0 Value.none))).get? x1 = some o1 := by rw [Heap.get?_update_other _ _ nx.symm]; exact h1
  refine raiseNew_hot ⟨hh, o1, vs1, Heap.get?_push_of_some _ (Heap.get?_push_of_some _ g1), d1, c1⟩ (Nat.ne_of_lt (Heap.lt_size (Heap.get?_push_of_some _ g1))) (Heap.get?_push_size _ rfl) rfl (by first | (simp; done) | (simp; omega) | (simp only [Array.size_append]; simp; omega)) ?_
  refine wpAny_bind (wpAny_isInstance (T := "StopIteration") (b := true) ⟨_, Heap.get?_update_self _ (Heap.get?_push_size _ rfl) rfl, rfl⟩ isSubtype_stop ?_)
  refine wpAny_pure (hQ _ fun b u nb e => ?_)
  have g2 : (s.heap.update it (Obj.mapFields (·.setIfInBounds 0 Value.none))).get? b = some u := by rw [Heap.get?_update_other _ _ (Ne.symm nb)]; exact e
  rw [Heap.get?_update_other _ _ (Nat.ne_of_gt (Heap.lt_size (Heap.get?_push_of_some _ g2)))]
  exact Heap.get?_push_of_some _ (Heap.get?_push_of_some _ g2)
theorem unpack_hot {env : Env} {elts : List Expr} {kk : Nat} {pos : Pos} {t x1 : Addr} {items : Array Value} {Q : Unit → Shared → Prop} (hot : HotAt A x1 s.heap) (ht : IsTup s.heap t items) (hn : (assignEach elts env).length = items.size) (hstar : (assignEach elts env).findIdx? (·.1) = none)
    (h : ∀ h', Heap.ExtBut s.heap.objs.size s.heap h' → wpAny (model prog w) A (assignInOrder ((assignEach elts env).map (·.2)) items.toList) Q E { s with heap := h' }) : wpAny (model prog w) A (assign (.Tuple elts kk pos) env (.ref t)) Q E s := by
  rw [assign_Tuple]
  refine wpAny_bind (wpAny_standAt ?_)
  unfold unpack
  rw [hn, hstar]
  refine wpAny_bind (wpAny_holding ?_)
  have hlt : t ≠ s.heap.objs.size := by obtain ⟨o, ho, _⟩ := ht; exact Nat.ne_of_lt (Heap.lt_size ho)
  obtain ⟨hh, o1, vs1, h1, d1, c1⟩ := hot
  have nx : x1 ≠ s.heap.objs.size := Nat.ne_of_lt (Heap.lt_size h1)
  unfold unpackItems
  refine wpAny_bind ?_
  unfold notIterableAtAll
  refine wpAny_bind (wpAny_specialOf ht.typeIs slot_tuple_iter.lookup (wpAny_pure ?_))
  simp only [Bool.false_eq_true, if_false]
  refine wpAny_bind (wpAny_holding (iter_tuple ht ?_))
  refine wpAny_bind (wpAny_holding (draw_tuple hlt items.size 0 _ _ ⟨_, Heap.get?_push_size _ rfl, rfl, rfl⟩ (ht.push _) (by omega) fun h₁ hit₁ hs₁ => ?_))
  have hall : List.take items.size (List.drop 0 items.toList) = items.toList := by
    rw [List.drop_zero]; exact List.take_of_length_le (by simp)
  rw [hall, if_neg (by simp)]
  have ht₁ : IsTup h₁ t items := (ht.push _).extBut hs₁.extBut hlt
  have hot₁ : HotAt A x1 h₁ := ⟨hh, o1, vs1, hs₁.extBut _ _ nx (Heap.get?_push_of_some _ h1), d1, c1⟩
  refine wpAny_bind (wpAny_holding (next_tup_hot (s := { s with heap := h₁ }) hot₁ nx hit₁ ht₁ (by simp) fun h₂ he₂ => ?_))
  simp only [Option.isSome_none, Bool.false_eq_true, if_false]
  exact wpAny_pure (h h₂ fun b o hb e => he₂ b o hb (hs₁.extBut b o hb (Heap.get?_push_of_some _ e)))
end
variable [TabC] [ObjB]
section
variable {X : Cx} {W : XW}
theorem pg_tupH {es : List Expr} {k : Nat} {pos : Pos} {t : TGs} {n : Nat} (hc : HotC X) (h : PGs X es t) (hn : (assignEach es X.env).length = n := by rfl) (hst : (assignEach es X.env).findIdx? (·.1) = none := by rfl) : PG X (.Tuple es k pos) (gTup X.K n t) := ⟨fun pins s σ H v u Q I r hw => by
  obtain ⟨a, xs, e1, hq, hl, hw⟩ := hw
  subst e1
  cases r
  obtain ⟨its, rv, ht, hz⟩ := I.tuple hq
  obtain ⟨x1, hot⟩ := hc.at I
  refine unpack_hot hot ht (by simp [hn, ← hl, rv.length]) hst fun h' hx => ?_
  have I1 : Inv X pins σ H { s with heap := h' } := I.kept (t' := s.toks) fun b o e => hx b o (Nat.ne_of_lt (Heap.lt_size e)) e
  exact h.run pins _ σ H xs _ Q I1 (by simpa using rv) hw⟩
theorem qg_tupH {es : List Expr} {kk : Nat} {pos : Pos} {vs : List Nat} {gs : DGs} {n : Nat} (hc : HotC X) (h : QGs X vs es gs) (hn : (assignEach es X.env).length = n := by rfl) (hst : (assignEach es X.env).findIdx? (·.1) = none := by rfl) : QG X vs (.Tuple es kk pos) (gT n gs) :=
  PG.sub (pg_tupH hc h hn hst) fun v σ H Q h => by
  obtain ⟨G0, H0, G, ρ, d, Qd, k, rv, ⟨ds, e, hl, h⟩, fn⟩ := h
  rcases e with rfl | rfl
  · cases rv with
    | tup s1 s2 => exact ⟨_, _, rfl, sqT_mono k.gh s1.t, (rpa_length s2).trans hl, G0, H0, G, ρ, ds, Qd, k, s2, h, fn⟩
  · obtain ⟨a, xs, rfl, s1, s2⟩ := rp_wk rv
    exact ⟨_, _, rfl, sqT_mono k.gh s1, (rpa_length s2).trans hl, G0, H0, G, ρ, ds, Qd, k, s2, h, fn⟩
theorem unitsH {k : Nat} {A : Around} (r : RoomH k A) : A.units + 64 < cLine := by have := r.un; omega
end
end WH
namespace WH
open PySem PySem.Spec L2 PyProof.Rows L2H
variable [TabC] [ObjB]
section
variable {X : Cx} {W : XW} {a D dd f : Addr} {oe : Obj} {pn : List (Addr × Obj)} {nm : Str} {fd : FuncData} {k : Nat}
theorem suite_ep (hz : L2N.Zn (.ref D) (some dd) oe) (hf : ∃ vs, oe.data = .fields vs) : ExP (X.suite a ((a, oe) :: pn)) a oe D dd := ⟨List.mem_cons_self, hz, hf⟩
theorem suite_hot (hz : L2N.Zn (.ref D) (some dd) oe) (hf : ∃ vs, oe.data = .fields vs) : Hot1 (X.suite a ((a, oe) :: pn)).A (a, oe) := by
  obtain ⟨vs, hv⟩ := hf
  exact ⟨rfl, vs, hv, hz.2.2 vs hv⟩
def dCalled (i : Nat) (a dd : Addr) (nm : Str) : DE := fun ρ Q _ => ∃ fs, ρ[i]? = some (Slot.raw (.ref a) (some (dd, fs))) ∧ fs.lookup ("word" : Str) = some (.str nm) ∧ Q (.str nm)
theorem qe_called {x : Str} {i : Nat} {p p1 pos : Pos} (F : HotFn X.prog X.w X.K X.mg X.base k f fd ["_law_e"] (spCal X.K X.mg)) (hr : RoomH k (X.A.mark (some (.ref a)))) (hz : L2N.Zn (.ref D) (some dd) oe) (hf : ∃ vs, oe.data = .fields vs) (cf : CalF X.K X.mg nm D) (hn : nm ∈ callNames)
    (hm : X.mg "_law_called" = some (.ref f)) (hk : PySem.W.keepIn X.K (.ref f) = true) (hb : Binds X.K fd ["_law_e"] []) (hi : X.N[i]? = some x := by rfl) (hv : Vis X.env.scope x := by first | exact .inl rfl | exact .inr (.inl rfl) | exact .inr (.inr rfl)) (hg : Gl X "_law_called" := by rfl)
    (hd1 : (x == ("__debug__" : Str)) = false := by decide) (hd2 : (x == ("__classdict__" : Str)) = false := by decide)
    (he : starEach [.Name x p1] X.env = (false, eval (.Name x p1) X.env) :: starEach [] X.env := by rfl) (hpl : (backTo pos (starEach [] X.env)).any (·.1) = false := by rfl) :
    QE (X.suite a ((a, oe) :: pn)) W (.Call (.Name "_law_called" p) [.Name x p1] [] pos) (dCalled i a dd nm) := ⟨fun pins s σ H Q I h => by
  obtain ⟨G0, H0, G, ρ, Qd, Xd, k, h, fn, xo⟩ := h
  obtain ⟨fs, hr1, hw, q⟩ := h
  obtain ⟨r1, r2⟩ := k.rw _ _ _ hr1
  obtain ⟨vs, r3, r4⟩ := r2 _ rfl
  refine wpAny_Call_Name_kw (ld_glob (X := X.suite a ((a, oe) :: pn)) I hg hm ?_ (by decide))
  have arg : PA (X.suite a ((a, oe) :: pn)) [.Name x p1] (tCons (tVar i) tNil) := pa_cons (pe_var (i := i) hi hv hd1 hd2) pa_nil he
  refine PySem.W.callWith_K (h₀ := X.base) I.ok.mod.kin hk (thn (arg.run pos pins s σ H (fun ys H1 => ys = [.ref a] ∧ H1 = H) I ⟨.ref a, r1, rfl, rfl⟩) fun us s1 z => ?_) he hpl
  obtain ⟨ys, H1, I1, r, ey, eH⟩ := z
  subst ey
  rw [eH] at I1
  refine ⟨I1.kIn, ?_⟩
  have hl : us.length = 1 := by rw [← r.length]; rfl
  have b := hb s1 us I1.kIn (by rw [List.append_nil]; exact hl)
  rw [List.append_nil] at b
  have P1 := I1.pin (a, oe) (List.mem_append_left _ List.mem_cons_self)
  have hpin : PinOk (X.suite a ((a, oe) :: pn)).stack H s1 (a, oe) := ⟨P1.1, P1.2.1, fun hmm => (List.mem_cons.mp (I1.stkSub a hmm)).elim P1.2.2.1 P1.2.2.2.1, P1.2.2.2.2⟩
  refine wpAny_call (codeAny_mono (F (X.A.mark (some (.ref a))) (X.suite a ((a, oe) :: pn)).stack s1 H ⟨us, []⟩ us [.ref a] Q (a, oe) hr (suite_hot (X := X) (pn := pn) hz hf) hpin I1.env0 b r ?_) fun r s' hq => ?_)
  · refine ⟨G, fs, D, dd, nm, vs, rfl, k.gn, k.tb, hz, hf, hn, cf, r3, r4, hw, fun v H' rr => ?_⟩
    obtain ⟨G', k', g', rv⟩ := RetOk.sh k rr rfl
    exact fn G' H' v _ k' g' rv q
  · cases r with
    | error e => exact (show False from hq).elim
    | ok fl =>
      cases fl with
      | ret u => exact I1.after hq
      | _ => exact False.elim hq⟩
end
def reprD : List PyData → (PyData → Prop) → Prop
  | [.int i], Q => i.natAbs < 2 ^ 200 ∧ Q (.str (PySem.Str.ofString (toString i)))
  | _, _ => False
theorem repr_E {K : PySem.W.Frag} : RAE K (fun xs H Q => ∃ i, xs = [.int i] ∧ i.natAbs.log2 < 1920 ∧ Q (.str (toString i)) H) reprD := by
  intro G0 H0 G H σ ρ xs ds Qd Q k rx hf fn
  cases rx with
  | nil => exact hf.elim
  | cons r t =>
    cases t with
    | cons _ _ => cases r <;> exact hf.elim
    | nil =>
      cases r with
      | int i => exact ⟨i, rfl, log_of hf.1, fn G H _ _ k Gr.refl (.str _) hf.2⟩
      | _ => exact hf.elim
section
variable {X : Cx} {W : XW} {e : Expr} {p pos : Pos}
theorem qe_repr {de : DE} (hm : X.mg "repr" = none) (ha : QE X W e de) (hg : Gl X "repr" := by rfl) (he : starEach [e] X.env = (false, eval e X.env) :: starEach [] X.env := by rfl) : QE X W (.Call (.Name "repr" p) [e] [] pos) (dCB reprD (dCons de dNil)) := qe_callB repr_E SkE.call_repr_int hm (by decide +kernel) (qa_cons ha qa_nil he) hg (he := he)
end
end WH
namespace WH
open PySem PySem.Spec PyProof.Rows L2
def lstTx (ns : List Int) : Str := (PyData.list (ns.map .int)).shown
def rReprL (K : PySem.W.Frag) : List V → Hp → VK → Prop := fun vs H Q => ∃ (a : Addr) (ns : List Int), vs = [V.ref a] ∧ SqL K H a (ns.map V.int) ∧ (∀ n ∈ ns, n.natAbs < 2 ^ 200) ∧ (lstTx ns).length ≤ 1000 ∧ Q (.str (lstTx ns)) H
theorem rdsAll_ints {h : Heap} : ∀ {ns : List Int} {vs : List Value}, Vals (ns.map V.int) vs → ReadsAll h vs (ns.map PyData.int) []
  | [], _, r => by cases r; exact .nil
  | n :: ns, _, r => by
    cases r with
    | cons a t =>
      obtain ⟨u, rfl⟩ := a
      exact ReadsAll.cons (as := []) (bs := []) (.int n u) (rdsAll_ints t)
theorem show_ints : ∀ {ns : List Int}, (∀ n ∈ ns, n.natAbs < 2 ^ 200) → PyData.showableAll (ns.map .int) = true
  | [], _ => rfl
  | n :: ns, h => by
    have h1 := h n List.mem_cons_self
    have h2 := show_ints fun x hx => h x (List.mem_cons_of_mem _ hx)
    simp only [List.map_cons, PyData.showableAll, h2, PyData.showable]
    have := log_of h1
    simp [this]
theorem noDict_ints : ∀ ns : List Int, PyData.hasDictAll (ns.map .int) = false
  | [] => rfl
  | n :: ns => by simp [PyData.hasDictAll, PyData.hasDict, noDict_ints ns]
theorem depth_ints : ∀ ns : List Int, PyData.depthAll (ns.map .int) = 0
  | [] => rfl
  | n :: ns => by simp [PyData.depthAll, PyData.depth, depth_ints ns]
theorem cr_reprL {X : Cx} (hg : X.A.guards = some []) (hu : X.A.units + 64 < cLine) : CallR X (.builtin "repr") (rReprL X.K) := by
  intro pins s σ H vs us Q I r h
  obtain ⟨a, ns, rfl, hs, hb, hz, q⟩ := h
  obtain ⟨its, rv, ⟨o, n, ho, hc, hd0, hd⟩, hl⟩ := I.list hs
  rw [Vals.ref1 r]
  have rd : Reads s.heap (.ref a) (.list (ns.map .int)) _ := Reads.list ho hc hd (by rw [List.toList_toArray]; exact rdsAll_ints (by simpa using rv))
  refine repr_of_reads' rd (by simp only [PyData.showable]; exact show_ints hb) (fun e => by simp [PyData.hasDict, noDict_ints] at e) hg (by simp only [PyData.depth, depth_ints]; omega) (fun _ _ e => e) (fun h' u tk hk => ⟨.str (lstTx ns), H, I.kept (t' := tk) hk, ⟨u, rfl⟩, q⟩) ?_
  have : sizeLine = sizeLine := rfl
  unfold lstTx at hz
  exact Nat.le_trans hz (by decide)
def reprLD : List PyData → (PyData → Prop) → Prop
  | [.list ds], Q => ∃ ns : List Int, ds = ns.map .int ∧ (∀ n ∈ ns, n.natAbs < 2 ^ 200) ∧ (lstTx ns).length ≤ 1000 ∧ Q (.str (lstTx ns))
  | _, _ => False
@[simp] theorem s_reprLD (ds : List PyData) (Q : PyData → Prop) : reprLD [.list ds] Q ↔ ∃ ns : List Int, ds = ns.map .int ∧ (∀ n ∈ ns, n.natAbs < 2 ^ 200) ∧ (lstTx ns).length ≤ 1000 ∧ Q (.str (lstTx ns)) := Iff.rfl
section
variable [TabC] [ObjB]
theorem reprL_E {K : PySem.W.Frag} : RAE K (rReprL K) reprLD := by
  intro G0 H0 G H σ ρ xs ds Qd Q k rx hf fn
  cases rx with
  | nil => exact hf.elim
  | cons r t =>
    cases t with
    | cons _ _ => cases r <;> exact hf.elim
    | nil =>
      cases r with
      | lst a1 a2 =>
        obtain ⟨ns, rfl, hb, hz, q⟩ := hf
        have ev := rpa_ofInts a2
        subst ev
        exact ⟨_, ns, rfl, SqL.of (k.gh _ _ a1), hb, hz, fn G H _ _ k Gr.refl (.str _) q⟩
      | _ => exact hf.elim
variable {X : Cx} {W : XW} {e : Expr} {p pos : Pos}
theorem qe_reprL {de : DE} (hgd : X.A.guards = some []) (hu : X.A.units + 64 < cLine) (hm : X.mg "repr" = none) (ha : QE X W e de) (hg : Gl X "repr" := by rfl) (he : starEach [e] X.env = (false, eval e X.env) :: starEach [] X.env := by rfl) : QE X W (.Call (.Name "repr" p) [e] [] pos) (dCB reprLD (dCons de dNil)) := qe_callB reprL_E (cr_reprL hgd hu) hm (by decide +kernel) (qa_cons ha qa_nil he) hg (he := he)
end
end WH
namespace WH
open PySem PySem.Spec L2 PyProof.Rows L2H LamX
variable [TabC] [ObjB]
def fieldOf : Nat → Str
  | 0 => "at"
  | 2 => "most"
  | _ => "level"
def TrD1 (x : Exn) (wd : Str) : Prop := ∃ i j : Int, x.2.lookup ("hand" : Str) = some (.int i) ∧ x.2.lookup ("row" : Str) = some (.int j) ∧ i.natAbs < 2 ^ 200 ∧ j.natAbs < 2 ^ 200 ∧ (lstTx [i, j]).length ≤ 1000 ∧ wd = x.1 ++ (" " : Str) ++ lstTx [i, j]
def TrD (c : Nat) (x : Exn) (wd : Str) : Prop := x.2.lookup ("word" : Str) = some (.str x.1) ∧ x.1.length ≤ 100 ∧ (match c with
  | 1 => TrD1 x wd
  | c => ((c = 4 ∧ wd = x.1) ∨ ((c = 0 ∨ c = 2 ∨ c = 3) ∧ ∃ i : Int, x.2.lookup (fieldOf c) = some (.int i) ∧ i.natAbs < 2 ^ 200 ∧ (PySem.Str.ofString (toString i)).length ≤ 1000 ∧ wd = x.1 ++ (" " : Str) ++ PySem.Str.ofString (toString i))))
theorem TrD.or {c : Nat} {x : Exn} {wd : Str} (h : TrD c x wd) : (c = 4 ∧ wd = x.1) ∨ ((c = 0 ∨ c = 2 ∨ c = 3) ∧ ∃ i : Int, x.2.lookup (fieldOf c) = some (.int i) ∧ i.natAbs < 2 ^ 200 ∧ (PySem.Str.ofString (toString i)).length ≤ 1000 ∧ wd = x.1 ++ (" " : Str) ++ PySem.Str.ofString (toString i)) ∨ (c = 1 ∧ TrD1 x wd) := by
  obtain ⟨_, _, h⟩ := h
  split at h
  · exact .inr (.inr ⟨rfl, h⟩)
  · rcases h with h | h
    · exact .inl h
    · exact .inr (.inl h)
def dTried (xn : List (Str × Nat)) (db : DE) : DE := fun ρ Q _ => db ρ (fun d => Q (.tuple [d, .str ""])) (fun x => ∃ c wd, (x.1, c) ∈ xn ∧ TrD c x wd ∧ Q (.tuple [.none, .str wd]))
@[simp] theorem s_dTried (xn : List (Str × Nat)) (db : DE) (ρ : Sto) (Q : PyData → Prop) (u : XD) : dTried xn db ρ Q u ↔ db ρ (fun d => Q (.tuple [d, .str ""])) (fun x => ∃ c wd, (x.1, c) ∈ xn ∧ TrD c x wd ∧ Q (.tuple [.none, .str wd])) := Iff.rfl
def WEX (K : PySem.W.Frag) (mg : Str → Option Value) (xn : List (Str × Nat)) (cls : Value) (d : Option Addr) (H : Hp) (Q : VK) : Prop :=
  ∃ x G c wd, ExcOk K mg G H x cls d ∧ (x.1, c) ∈ xn ∧ TrD c x wd ∧ Same G (nt H) ∧ Tabs TabC.T H ∧ ∀ G2 H2, Same G G2 → Ex H H2 → Same G2 (nt H2) → (∀ a o, G2 a = some o → G a = some o ∨ NS H a) → NewT H2 [.non, .str wd] Q
def TTr (K : PySem.W.Frag) (mg : Str → Option Value) (xn : List (Str × Nat)) : (XK → Hp → VK → Prop) → Hp → VK → Prop := fun tl H Q =>
  ∃ E : XK, (∀ cls d H', E cls d H' → WEX K mg xn cls d H' Q) ∧ ∀ (p0 : Addr) (its0 : List Value), H p0 = none → tl E (upd H p0 (tupN its0 [.non, .str ""])) (fun v H' => NewT H' [v, .str ""] Q)
theorem up_tried {K : PySem.W.Frag} {mg : Str → Option Value} {W : XW} {xn : List (Str × Nat)} {db : DE} (σ : L2.St) (H : Hp) (Q : VK) (h : upE K W (dTried xn db) σ H Q) : tLam TabC.T (TTr K mg xn) (fun E => upE K (WF mg E) db) σ H Q := by
  obtain ⟨G0, H0, G, ρ, Qd, Xd, k, h, fn, xo⟩ := h
  refine ⟨k.tb, fun H1 eN t1 => ?_⟩
  have ex : Ex H H1 := ⟨fun b o e => nt_of (eN b o (nt_some e) (nt_ntb e)) (nt_ntb e), fun _ => t1⟩
  have k1 : Ok K G0 H0 G H1 σ ρ := k.grow (Same.refl _) ex (k.gn.trans ex.s) fun a o e => .inl e
  have g1 : Gr G H G H1 := ⟨Same.refl _, ex, fun a o e => .inl e⟩
  refine ⟨fun cls d H' => ∃ G' x, Ok K G0 H0 G' H' σ ρ ∧ Gr G H1 G' H' ∧ ExcOk K mg G' H' x cls d ∧ ∃ c wd, (x.1, c) ∈ xn ∧ TrD c x wd ∧ Qd (.tuple [.none, .str wd]), fun cls d H' z => ?_, fun p0 its0 hp0 => ?_⟩
  · obtain ⟨G', x, k', g', eo, c, wd, hx, ht, q⟩ := z
    refine ⟨x, G', c, wd, eo, hx, ht, k'.gn, k'.tb, fun G2 H2 s1 s2 s3 s4 => ?_⟩
    have k2 : Ok K G0 H0 G2 H2 σ ρ := k'.grow s1 s2 s3 s4
    have g2 : Gr G H G2 H2 := (g1.trans g').trans ⟨s1, s2, s4⟩
    exact fin_tup k2 (fun G3 H3 v d k3 g3 rv q => fn G3 H3 v d k3 (g2.trans g3) rv q) (.cons .non (.cons (.str wd) .nil)) q
  · have gp : Gr G H1 G (upd H1 p0 (tupN its0 [.non, .str ""])) := Gr.fresh hp0
    refine ⟨G0, H0, G, ρ, _, _, k1.fresh hp0 (fun _ z => by cases z), h, fun G' H' v d k' g' rv q => ?_, fun G' H' x cls d k' g' eo z => ⟨G', x, k', gp.trans g', eo, z⟩⟩
    exact fin_tup k' (fun G3 H3 v d k3 g3 rv q => fn G3 H3 v d k3 (((g1.trans gp).trans g').trans g3) rv q) (.cons rv (.cons (.str _) .nil)) q
def tAsk (f c' : Addr) (q : Str) (V : WX) (tl : XK → Hp → VK → Prop) : TE := fun σ H Q => ∃ (E : XK) (Q' : VK), σ[0]? = some (some (.ref f)) ∧ H c' = some (CodeO c' q) ∧ (∀ cls d H', E cls d H' → V cls d σ H') ∧ tl E H Q' ∧ ∀ v H', Q' v H' → Q v H'
theorem pe_ask {Z : Cx} {e : Expr} {f c' : Addr} {q : Str} {V : WX} {tl : XK → Hp → VK → Prop} (h : ∀ E : XK, PE Z e (fun σZ HZ Q => σZ[0]? = some (some (.ref f)) ∧ HZ c' = some (CodeO c' q) ∧ (∀ cls d H', E cls d H' → V cls d σZ H') ∧ tl E HZ Q)) : PE Z e (tAsk f c' q V tl) :=
  ⟨fun pins s σ H Q I z => by
    obtain ⟨E, Q', h1, h2, h3, h4, h5⟩ := z
    refine thn ((h E).run pins s σ H Q' I ⟨h1, h2, h3, h4⟩) fun u s1 z => ?_
    obtain ⟨v, H1, I1, r, q⟩ := z
    exact ⟨v, H1, I1, r, h5 v H1 q⟩⟩
def tSu (K : PySem.W.Frag) (mg : Str → Option Value) (d1 : Addr → Addr → Str → DS) (a : Addr) (cls : Value) (d : Option Addr) : TS := fun Dn σ H => ∃ D dd nm, cls = .ref D ∧ d = some dd ∧ nm ∈ callNames ∧ CalF K mg nm D ∧ upS K (W0 mg) (d1 a dd nm) Dn σ H
theorem tsd {Y : Cx} {K : PySem.W.Frag} {mg : Str → Option Value} {d1 : Addr → Addr → Str → DS} {a : Addr} {oe : Obj} {cls : Value} {d : Option Addr} {st : List Stmt} (hz : L2N.Zn cls d oe) (h : ∀ D dd nm, L2N.Zn (.ref D) (some dd) oe → nm ∈ callNames → CalF K mg nm D → QSs Y (W0 mg) st (d1 a dd nm)) (hK : Y.K = K := by rfl) : PSs Y st (tSu K mg d1 a cls d) :=
  ⟨fun pins s σ H Dn I z => by
    subst hK
    obtain ⟨D, dd, nm, rfl, rfl, hn, cf, z⟩ := z
    exact (h D dd nm hz hn cf).run pins s σ H Dn I z⟩
theorem roomMk {k : Nat} {A : Around} (r : Room k A) (h : Option Value) : RoomH k (A.mark h) := ⟨r.dp, r.un⟩
def suN (f : Str) : Addr → Addr → Str → DS := fun a dd nm => dAsg 2 (d2 addD (d2 addD (dCalled 3 a dd nm) (dC (.str " "))) (dCB reprD (dCons (dXf 3 a dd f) dNil)))
def suP : Addr → Addr → Str → DS := fun a dd nm => dAsg 2 (dCalled 3 a dd nm)
def suL : Addr → Addr → Str → DS := fun a dd nm => dAsg 2 (d2 addD (d2 addD (dCalled 3 a dd nm) (dC (.str " "))) (dCB reprLD (dCons (dOfO (dLst (dCons (dXf 3 a dd "hand") (dCons (dXf 3 a dd "row") dNil)))) dNil)))
theorem ok_suite {K : PySem.W.Frag} {G H : Hp} {f a dd : Addr} {fs : List (Str × PyData)} {vs : List (Str × V)} (gh : Same G (nt H)) (tb : Tabs TabC.T H) (h1 : G dd = some (.xd vs)) (h2 : DpF K G vs fs) (hB : Same ObjB.B (nt H)) :
    Ok K G H G H [some (.ref f), some .non, some (.str ""), some (.ref a)] [Slot.no, .sh .none, .sh (.str ""), Slot.raw (.ref a) (some (dd, fs))] := by
  refine ⟨gh, Same.refl _, Ex.refl _, tb, fun a o e => .inl e, rfl, fun i d e => ?_, fun i o e => ?_, fun i j o u b _ e => ?_, fun i v x e => ?_, fun i a t e => (by
    match i, e with
    | 1, e => cases e
    | 2, e => cases e
    | 3, e => cases e
    | 0, e => cases e
    | n + 4, e => cases e), hB⟩
  · match i, e with
    | 1, e => cases e; exact ⟨_, rfl, .non⟩
    | 2, e => cases e; exact ⟨_, rfl, .str _⟩
    | 3, e => cases e
    | 0, e => cases e
    | n + 4, e => cases e
  · match i, e with
    | 1, e => cases e
    | 2, e => cases e
    | 3, e => cases e
    | 0, e => cases e
    | n + 4, e => cases e
  · match i, e with
    | 1, e => cases e
    | 2, e => cases e
    | 3, e => cases e
    | 0, e => cases e
    | n + 4, e => cases e
  · match i, e with
    | 3, e => cases e; exact ⟨rfl, fun q hq => by cases hq; exact ⟨vs, h1, h2⟩⟩
    | 1, e => cases e
    | 2, e => cases e
    | 0, e => cases e
    | n + 4, e => cases e
abbrev retEnds (Q : VK) : Ends := { nx := fun σ' H' => tRet (tTupN (tCons (tVar 1) (tCons (tVar 2) tNil))) { nx := fun _ H2 => Q .non H2, rt := Q } σ' H', rt := Q }
theorem su_run {K : PySem.W.Frag} {mg : Str → Option Value} {Q : VK} {D a dd f : Addr} {x : Exn} {wd : Str} {G H : Hp} {vs : List (Str × V)} {d1 : Addr → Addr → Str → DS} (gn : Same G (nt H)) (hB : Same ObjB.B (nt H)) (tb : Tabs TabC.T H) (hg : G dd = some (.xd vs)) (hd : DpF K G vs x.2) (cn : x.1 ∈ callNames) (cf : CalF K mg x.1 D)
    (fin : ∀ G2 H2, Same G G2 → Ex H H2 → Same G2 (nt H2) → (∀ a o, G2 a = some o → G a = some o ∨ NS H a) → NewT H2 [.non, .str wd] Q)
    (h : ∀ De : DEnds, De.nx [Slot.no, .sh .none, .sh (.str wd), Slot.raw (.ref a) (some (dd, x.2))] → d1 a dd x.1 De [Slot.no, .sh .none, .sh (.str ""), Slot.raw (.ref a) (some (dd, x.2))]) :
    tSu K mg d1 a (.ref D) (some dd) (asEnds 3 (retEnds Q)) [some (.ref f), some .non, some (.str ""), some (.ref a)] H := by
  refine ⟨D, dd, x.1, rfl, rfl, cn, cf, G, H, G, _, { nx := fun ρ' => ρ' = [Slot.no, .sh .none, .sh (.str wd), Slot.raw (.ref a) (some (dd, x.2))], rt := fun _ => False, ex := fun _ _ => False }, ok_suite gn tb hg hd hB, h _ rfl, fun G' H2 σ' ρ' k' e => ?_, fun _ _ _ _ z => z.elim, fun _ _ _ _ _ z => z.elim, fun _ _ _ _ _ z => z.elim, fun _ _ _ _ _ _ _ _ _ z => z.elim⟩
  subst e
  obtain ⟨v1, e1, r1⟩ := k'.sh 1 _ rfl
  obtain ⟨v2, e2, r2⟩ := k'.sh 2 _ rfl
  cases r1
  cases r2
  refine ⟨.non, by rw [getElem_set_eq, if_neg (by decide)]; exact e1, .str wd, by rw [getElem_set_eq, if_neg (by decide)]; exact e2, by show 2 ≤ sizeLine; decide, fin G' H2 k'.g0 k'.h0 k'.gn k'.nw⟩
theorem suN_run {nm f wd : Str} {a dd : Addr} {fs : List (Str × PyData)} {i : Int} (h1 : fs.lookup ("word" : Str) = some (.str nm)) (hl : nm.length ≤ 100) (h2 : fs.lookup f = some (.int i)) (h3 : i.natAbs < 2 ^ 200) (h4 : (PySem.Str.ofString (toString i)).length ≤ 1000) (hw : wd = nm ++ (" " : Str) ++ PySem.Str.ofString (toString i)) (De : DEnds)
    (h : De.nx [Slot.no, .sh .none, .sh (.str wd), Slot.raw (.ref a) (some (dd, fs))]) : suN f a dd nm De [Slot.no, .sh .none, .sh (.str ""), Slot.raw (.ref a) (some (dd, fs))] := by
  subst hw
  have e1 : (" " : Str).length = 1 := rfl
  have e2 : (nm ++ (" " : Str)).length = nm.length + 1 := by rw [len_app, e1]
  exact ⟨fs, rfl, h1, ⟨by omega, fs, _, rfl, h2, h3, by show (nm ++ (" " : Str)).length + (PySem.Str.ofString (toString i)).length ≤ 100000; omega, h⟩⟩
theorem suL_run {nm wd : Str} {a dd : Addr} {fs : List (Str × PyData)} {i j : Int} (h1 : fs.lookup ("word" : Str) = some (.str nm)) (hl : nm.length ≤ 100) (h2 : fs.lookup ("hand" : Str) = some (.int i)) (h5 : fs.lookup ("row" : Str) = some (.int j)) (h3 : i.natAbs < 2 ^ 200) (h6 : j.natAbs < 2 ^ 200) (h4 : (lstTx [i, j]).length ≤ 1000) (hw : wd = nm ++ (" " : Str) ++ lstTx [i, j]) (De : DEnds)
    (h : De.nx [Slot.no, .sh .none, .sh (.str wd), Slot.raw (.ref a) (some (dd, fs))]) : suL a dd nm De [Slot.no, .sh .none, .sh (.str ""), Slot.raw (.ref a) (some (dd, fs))] := by
  subst hw
  have e1 : (" " : Str).length = 1 := rfl
  have e2 : (nm ++ (" " : Str)).length = nm.length + 1 := by rw [len_app, e1]
  refine ⟨fs, rfl, h1, ⟨by omega, fs, _, rfl, h2, fs, _, rfl, h5, ?_⟩⟩
  refine ⟨by simp, _, rfl, [i, j], rfl, fun n hn => ?_, h4, by show (nm ++ (" " : Str)).length + (lstTx [i, j]).length ≤ 100000; omega, h⟩
  simp only [List.mem_cons, List.not_mem_nil, or_false] at hn
  rcases hn with rfl | rfl
  · exact h3
  · exact h6
theorem suP_run {nm : Str} {a dd : Addr} {fs : List (Str × PyData)} (h1 : fs.lookup ("word" : Str) = some (.str nm)) (De : DEnds)
    (h : De.nx [Slot.no, .sh .none, .sh (.str nm), Slot.raw (.ref a) (some (dd, fs))]) : suP a dd nm De [Slot.no, .sh .none, .sh (.str ""), Slot.raw (.ref a) (some (dd, fs))] := ⟨fs, rfl, h1, h⟩
theorem wall_of {K : PySem.W.Frag} {mg : Str → Option Value} {Q : VK} {f : Addr} {xn : List (Str × Nat)} {c1 c2 c3 c4 c5 c6 c7 c8 c9 : Value} (hx : ∀ nm c, (nm, c) ∈ xn → ∃ D, mg nm = some (.ref D) ∧ TrF K mg [[c1, c2, c3], [c4], [c5], [c6], [c7, c8, c9]] nm D c) {cls : Value} {d : Option Addr} {H : Hp} (h : WEX K mg xn cls d H Q) (hB : ∀ H : Hp, Same ObjB.B (nt H)) :
    wAll K 3 (retEnds Q) [([c1, c2, c3], fun a cls d => tSu K mg (suN "at") a cls d), ([c4], fun a cls d => tSu K mg suL a cls d), ([c5], fun a cls d => tSu K mg (suN "most") a cls d), ([c6], fun a cls d => tSu K mg (suN "level") a cls d), ([c7, c8, c9], fun a cls d => tSu K mg suP a cls d)] cls d [some (.ref f), some .non, some (.str ""), none] H := by
  obtain ⟨x, G, c, wd, ⟨hm, dd, vs, rfl, hg, hd⟩, hxn, htt, gn, tb, fin⟩ := h
  have ht := htt.or
  obtain ⟨hw, hl, _⟩ := htt
  replace hB := hB H
  obtain ⟨D, hD, tf⟩ := hx _ _ hxn
  have ec := hm.symm.trans hD
  cases ec
  have nt' : ∀ {P : Prop}, (true = false → P) := fun h => Bool.noConfusion h
  have nf' : ∀ {P : Prop}, (false = true → P) := fun h => Bool.noConfusion h
  rcases ht with ⟨rfl, rfl⟩ | ⟨hc, i, h2, h3, h4, hwd⟩ | ⟨rfl, i, j, h2, h5, h3, h6, h4, hwd⟩
  rotate_right
  · exact ⟨_, tf.no 0 (by omega), nf', fun _ => ⟨_, tf.ye, fun _ a ha => su_run gn hB tb hg hd tf.cn tf.cal fin fun De h => suL_run hw hl h2 h5 h3 h6 h4 hwd De h, nt'⟩⟩
  · exact ⟨_, tf.no 0 (by omega), nf', fun _ => ⟨_, tf.no 1 (by omega), nf', fun _ => ⟨_, tf.no 2 (by omega), nf', fun _ => ⟨_, tf.no 3 (by omega), nf', fun _ => ⟨_, tf.ye, fun _ a ha => su_run gn hB tb hg hd tf.cn tf.cal fin fun De h => suP_run hw De h, nt'⟩⟩⟩⟩⟩
  · rcases hc with rfl | rfl | rfl
    · exact ⟨_, tf.ye, fun _ a ha => su_run gn hB tb hg hd tf.cn tf.cal fin fun De h => suN_run hw hl h2 h3 h4 hwd De h, nt'⟩
    · exact ⟨_, tf.no 0 (by omega), nf', fun _ => ⟨_, tf.no 1 (by omega), nf', fun _ => ⟨_, tf.ye, fun _ a ha => su_run gn hB tb hg hd tf.cn tf.cal fin fun De h => suN_run hw hl h2 h3 h4 hwd De h, nt'⟩⟩⟩
    · exact ⟨_, tf.no 0 (by omega), nf', fun _ => ⟨_, tf.no 1 (by omega), nf', fun _ => ⟨_, tf.no 2 (by omega), nf', fun _ => ⟨_, tf.ye, fun _ a ha => su_run gn hB tb hg hd tf.cn tf.cal fin fun De h => suN_run hw hl h2 h3 h4 hwd De h, nt'⟩⟩⟩⟩
end WH
namespace WH
open PySem PySem.Spec L2 PyProof.Rows L2H LamX
variable [TabC] [ObjB]
section
variable {X : Cx} {W : XW}
theorem qe_tried {g : Addr} {k m : Nat} {pg : Arguments} {bg : List Stmt} {sg : Scope} {fd : FuncData} {Ng : List Str} {xn : List (Str × Nat)} {params : Arguments} {body : Expr} {scope : Scope} {db : DE} {p lpos pos : Pos}
    (F : FunD X.K "_law_tried" "_law_tried" pg bg sg [] [] g fd) (hm : X.mg "_law_tried" = some (.ref g)) (hb : L2.Binds X.K fd ["_law_ask"] []) (Sg : FnScope Ng ["_law_ask"] sg) (hNg : Ng[0]? = some ("_law_ask" : Str)) (hva : Vis sg "_law_ask")
    (hG : ∀ cdv q, GivesN X Ng "_law_tried" sg g cdv bg "_law_ask" q k (TTr X.K X.mg xn)) (TX : TabX X) (hr : Room m X.A) (hk : k + 2 ≤ m)
    (hbody : ∀ (A : Around) (outer : List Env) (s : Shared) (H : Hp) (E : XK) (f c' : Addr), Room k (A.deeper (lamEnv X scope s.heap.objs.size f c')) → QE (lamN X A outer s H E scope f c') (WF X.mg E) body db)
    (L : LamS X.env.scope scope := by exact lamS_by (by decide +kernel)) (hdef : defaultsOf params X.env = ([], []) := by rfl)
    (hbind : ∀ (q : Str) (cl : List (Str × Addr)) (pm cv ctv : Value), bindArgs (PySem.W.kla_fn "<lambda>" q params body scope cl pm cv ctv) ⟨[], []⟩ = pure [] := by intro _ _ _ _ _; rfl) (hg : Gl X "_law_tried" := by rfl) :
    QE X W (.Call (.Name "_law_tried" p) [.Lambda params body scope lpos] [] pos) (dTried xn db) := by
  obtain ⟨c, P, TB, hcode, hmT, hu⟩ := TX.ex
  have kp := F.kp
  obtain ⟨oc, od, dV, kV, doc, pm, an, cdv, ct, osl, rfl, lk, hcd, _, _⟩ := F.ex
  exact PE.sub (pe_lamN (T := TabC.T) (TT := TTr X.K X.mg xn) (t := fun E => upE X.K (WF X.mg E) db) hg hm kp lk hcd hb Sg hNg hva (hG cdv _) TB hcode hmT hu (hr.mono hk) L hdef hbind hbody (by decide) (by decide) (by decide)) up_tried
end
section
variable {P : Program} {w : World} {K : PySem.W.Frag} {mg : Str → Option Value} {base : Heap}
omit [ObjB] in
theorem fn_okC {x qual : Str} {st : Stmt} {f : Addr} {fd : FuncData} {N ps : List Str} {k : Nat} {C : Ct} {db : DS} {dvs : List V} {kws : List (Str × V)} (F : FunD K x qual (defArgs st) (defBody st) (defScope st) dvs kws f fd) (S : FnScope N ps (defScope st)) (len : ∀ ds R Xd, C ds R Xd → ds.length = ps.length)
    (hbody : ∀ (A : Around) (outer : List Env) (s : Shared) (H : Hp) (E : XK), Room k (A.deeper (PyProof.Rows.envOfC qual (defScope st) s.heap.objs.size f fd.code)) → @QSs _ objNil (cxOf (L2N.CX P w) P w K mg base N qual (defScope st) f fd.code A outer s H E) (WF mg E) (defBody st) db)
    (h : ∀ ds R Xd, C ds R Xd → db { nx := fun _ => R (.sh .none), rt := R, ex := fun x _ => Xd x } (st0 N ds)) : FnOk P w K mg base (L2N.CX P w) (k + 1) f fd ps (PSp K mg C) := by
  letI : ObjB := objNil
  obtain ⟨oc, od, dV, kV, doc, pm, an, cdv, ct, osl, rfl, lk, hcd, _, _⟩ := F.ex
  refine fn_of lk hcd S (fun vs H Q E h => ?_) (fun A outer s H vs Q E hr hsp => ⟨_, hbody A outer s H E hr, ?_⟩)
  · obtain ⟨G, ds, R, Xd, _, _, r, c, _⟩ := h
    rw [rpa_length r]
    exact len _ _ _ c
  · obtain ⟨G, ds, R, Xd, gh, tb, r, c, rt, ex⟩ := hsp
    refine ⟨G, H, G, _, _, ok_start gh tb r sameNil, h ds R Xd c, fun G' H' σ' ρ' k' q => rt (.sh .none) _ _ (retSh k' .non) q, rt, fun _ _ _ _ _ z => z.elim, fun _ _ _ _ _ z => z.elim, fun G' H' σ' ρ' x cls d k' e q => ex G' H' x cls d k'.g0 k'.h0 k'.gn k'.nw e q⟩
end
theorem takes_lam {X : Cx} {A : Around} {outer : List Env} {s : Shared} {H : Hp} {E : XK} {scope : Scope} {f c' : Addr} {mg : Str → Option Value} : L2N.Takes (lamN X A outer s H E scope f c') (WF mg E).2 := L2N.takes_of rfl rfl rfl rfl
end WH
namespace LamX
open PySem PySem.Spec PyProof.Rows L2
theorem fn_ofG {CX : CXT} {P : Program} {w : World} {K : PySem.W.Frag} {mg : Str → Option Value} {base : Heap} {k : Nat} {f : Addr} {name qual : Str} {params : Arguments} {body : List Stmt} {scope : Scope} {dV kV doc pm cdv ct oc : Value} {an od : Option Addr}
    {osl : Array (Option Value)} {N ps : List Str} {sp : Sp} (lk : K.lookup f = some ⟨oc, od, .func (PySem.W.fnOf name qual params body scope dV kV doc pm an cdv ct), osl⟩) (hcd : PySem.W.codeIn K cdv qual = true) (S : FnScope N ps scope)
    (len : ∀ vs H Q E, sp vs H Q E → vs.length = ps.length)
    (hbody : ∀ (A : Around) (outer : List Env) (s : Shared) (H : Hp) (vs : List V) (Q : VK) (E : XK), A.guards = some [] → Room k (A.deeper (envOfC qual scope s.heap.objs.size f cdv)) → sp vs H Q E →
      ∃ t, PSs (cxOf CX P w K mg base N qual scope f cdv A outer s H E) body t ∧ t { nx := fun _ H' => Q .non H', rt := Q } (start N vs) H) :
    FnOkG P w K mg base CX (k + 1) f (PySem.W.fnOf name qual params body scope dV kV doc pm an cdv ct) ps sp := by
  refine ⟨len, fun A outer s H args us vs Q E hr hgd e0 hb r hsp => ?_⟩
  have hl := len _ _ _ _ hsp
  have KX : K.In s.heap := e0.mod.kin.keeps fun b o e => (e0.bs b o e).1
  have lim : s.heap.NoLimit := e0.mod.nolimit.keeps fun b o e => (e0.bs b o e).1
  have hkind : ∀ y ∈ ps.zip us, scope.names.lookup y.1 = some .local ∨ (scope.names.lookup y.1 = some .cell ∧ ((cellsFrom (s.heap.objs.size + 1) scope.names []).lookup y.1).isSome = true) := fun ⟨n, v⟩ hy => by
    rcases S.par n (List.of_mem_zip hy).1 with q | q
    · exact .inl q
    · exact .inr ⟨q, PySem.W.cellsFrom_some _ _ _ (.inl q)⟩
  refine codeAny_call_function hr.depth (KX _ _ lk) rfl S.co S.gen rfl (PySem.W.codeRec_of KX hcd) (hb _ _ _ _ ?_)
  refine wpAny_newFunctionEnv_cells S.kind hkind fun env he s1 x => ?_
  subst he
  refine ⟨lim.keeps x.toInCall.keep, codeAny_func ?_⟩
  obtain ⟨t, ht, hq⟩ := hbody A outer s H vs Q E hgd (hr.deeper _) hsp
  have I : Inv (cxOf CX P w K mg base N qual scope f cdv A outer s H E) [] (start N vs) H s1 := inv_start S hr.hd e0 hl r x
  refine wpAny_mono (ht.run [] s1 (start N vs) H _ I hq) (fun fl s' hs => ?_) fun e s' hs => hs
  have fin : ∀ {σ' : L2.St} {H' : Hp} {v : V} {u : Value}, Inv (cxOf CX P w K mg base N qual scope f cdv A outer s H E) [] σ' H' s' → RelV v u → Q v H' → CE outer P w H s Q u s' :=
    fun {σ' H' v u} J rv q => ⟨v, H', J.os, J.bare, J.base, J.hok, rv, q⟩
  cases fl with
  | ret u =>
    obtain ⟨v, σ', H', J, rv, q⟩ := hs
    exact fin J rv q
  | next =>
    obtain ⟨σ', H', J, q⟩ := hs
    exact fin (v := V.non) (u := Value.none) J rfl q
  | brk =>
    obtain ⟨_, _, _, q⟩ := hs
    exact False.elim q
  | cont =>
    obtain ⟨_, _, _, q⟩ := hs
    exact False.elim q
theorem law_callTsG {P : Program} {w : World} {K : PySem.W.Frag} {mg mb : Str → Option Value} {CX : CXT} {k : Nat} {fa a : Addr} {cs : List (Addr × Addr)} {fd : FuncData} {x : Str} {sp : Sp} {s₁ : Shared} {vs : List Value} {ns : List Int}
    (KX : K.In s₁.heap) (hns : s₁.heap.Ns mainGlobals mg) (hb : s₁.heap.Ns builtinsNs mb) (hbb : ∀ x : Str, x ≠ "__name__" → mb x = bootBuiltins x) (hlim : s₁.heap.NoLimit) (hg : s₁.gens = #[])
    (hT : ∀ p ∈ cs, s₁.heap.get? p.2 = some { cls := .none, data := .fields #[] }) (nT : ∀ p ∈ cs, K.lookup p.2 = none) (C : ∀ p ∈ cs, PySem.W.CodeHd s₁.heap p.1 p.2)
    (hbm : ∃ (bm : Addr) (ob : Obj), mg "__builtins__" = some (.ref bm) ∧ bm ≠ builtinsNs ∧ s₁.heap.get? bm = some ob ∧ ob.cls = .type "module" ∧ ob.dict = some builtinsNs ∧ ob.data = .plain)
    (ha : s₁.heap.get? a = some { cls := .type "list", data := .seq vs.toArray }) (hi : IntsAre vs ns) (hl : ns.length ≤ sizeLine) (hr : Room k callerA)
    (F : ∀ base : Heap, K.In base → base.Ns mainGlobals mg → (∀ p ∈ cs, TabB base mg p.1 p.2) → FnOkG P w K mg base CX k fa fd [x] sp) (hbind : ∀ (s : Shared) (u : Value), BindsTo s fd ⟨[u], []⟩ [(x, u)])
    (hsp : ∀ H : Hp, (∀ p ∈ cs, H p.2 = some (.tbl #[])) → SqL K H a (ns.map V.int) → sp [.ref a] H (fun v _ => v = .bl true) fun _ _ _ => False)
    (hCX : ∀ H e s', CX [] H s₁ (fun _ _ _ => False) e s' → False) :
    codeAny (model P w) callerA (.call (.ref fa) ⟨[.ref a], []⟩) (fun r s' => r = .ok (.ret (.bool true)) ∧ OldK s₁.heap s'.heap ∧ s'.os = s₁.os ∧ AllBare s'.gens) s₁ := by
  have rv := vals_ints hi
  have lenV := hi.length
  have isT : ∀ b : Addr, b ∈ cs.map (·.2) → s₁.heap.get? b = some { cls := .none, data := .fields #[] } := fun b hb => by
    obtain ⟨p, hp, e⟩ := List.mem_map.mp hb
    rw [← e]
    exact hT p hp
  have aT : a ∉ cs.map (·.2) := fun z => by
    have q := isT a z
    rw [ha] at q
    have z' : Data.seq vs.toArray _ = Data.fields #[] := congrArg Obj.data (Option.some.inj q)
    cases z'
  have memT : ∀ p ∈ cs, p.2 ∈ cs.map (·.2) := fun p hp => List.mem_map.mpr ⟨p, hp, rfl⟩
  -- from an abstract heap in which nothing but the script and the tables may be tracked
  have core : ∀ H : Hp, (∀ p ∈ cs, H p.2 = some (.tbl #[])) → (∀ b, H b = none ∨ b ∈ cs.map (·.2) ∨ ∃ o xs, H b = some (.frz o (.lst xs))) → SqL K H a (ns.map V.int) → HOk P w H s₁.heap → (∀ b, H b ≠ none → b = a ∨ b ∈ cs.map (·.2)) → (H a ≠ none → K.lookup a = none) →
      codeAny (model P w) callerA (.call (.ref fa) ⟨[.ref a], []⟩) (fun r s' => r = .ok (.ret (.bool true)) ∧ OldK s₁.heap s'.heap ∧ s'.os = s₁.os ∧ AllBare s'.gens) s₁ := by
    intro H hH hO hS hok hA hK
    have base_of : ∀ {b : Addr} {o : Obj}, s₁.heap.get? b = some o → H b = none → (hidT s₁.heap H).get? b = some o := fun e n => hidT_get e n
    have noD : ∀ {b : Addr} {o : Obj}, s₁.heap.get? b = some o → (∀ vs n, o.data ≠ .seq vs n) → o.data ≠ .fields #[] → H b = none := fun {b o} e h1 h2 => by
      cases q : H b with
      | none => rfl
      | some u =>
        rcases hA b (by rw [q]; simp) with e' | e'
        · rw [e', ha] at e
          cases e
          exact (h1 _ _ rfl).elim
        · rw [isT b e'] at e
          cases e
          exact (h2 rfl).elim
    have noA : ∀ {b : Addr} {o : Obj} {es : Array DictEntry} {ep : Nat}, s₁.heap.get? b = some o → o.data = .dict es ep → H b = none := fun {b o es ep} e d => by
      refine noD e (fun vs n z => ?_) fun z => ?_
      · rw [d] at z
        cases z
      · rw [d] at z
        cases z
    have nsK : ∀ {b : Addr} {m : Str → Option Value}, s₁.heap.Ns b m → (hidT s₁.heap H).Ns b m := fun {b m} ⟨o, es, ep, e, d, r⟩ => ⟨o, es, ep, base_of e (noA e d), d, r⟩
    have hKb : K.In (hidT s₁.heap H) := fun b o e => base_of (KX b o e) (by
      cases q : H b with
      | none => rfl
      | some u =>
        rcases hA b (by rw [q]; simp) with e' | e'
        · rw [e'] at e q
          rw [hK (by rw [q]; simp)] at e
          cases e
        · obtain ⟨p, hp, ep⟩ := List.mem_map.mp e'
          rw [← ep, nT p hp] at e
          cases e)
    have hM : L2.Mod K mg (hidT s₁.heap H) := ⟨hKb, nsK hns, ⟨mb, nsK hb, hbb⟩, let ⟨mc, h1, h2⟩ := hlim; ⟨mc, nsK h1, h2⟩⟩
    have TB : ∀ p ∈ cs, TabB (hidT s₁.heap H) mg p.1 p.2 := fun p hp => by
      have hTp := hT p hp
      refine ⟨?_, ?_, fun z => ?_⟩
      · obtain ⟨o, us, file, tf, flags, tg, inF, text, tt, e1, r1, r2, r3, r4, r5, r6, r7, r8, hne⟩ := C p hp
        refine ⟨o, us, file, tf, flags, tg, inF, text, tt, base_of e1 (noD e1 (fun vs n z => ?_) fun z => ?_), r1, r2, r3, r4, r5, r6, r7, r8, hne⟩
        · rw [r2] at z
          cases z
        · rw [r2] at z
          cases z
          simp at r3
      · obtain ⟨bm, ob, b1, b2, b3, b4, b5, b6⟩ := hbm
        have nG : bm ≠ mainGlobals := fun q => by
          obtain ⟨o, es, ep, e, hd, _⟩ := hns
          rw [q, e] at b3
          cases b3
          rw [hd] at b6
          cases b6
        have nP : bm ≠ p.2 := fun q => by
          rw [q, hTp] at b3
          cases b3
          cases b6
        refine ⟨bm, ob, b1, b2, nG, nP, base_of b3 (noD b3 (fun vs n z => ?_) fun z => ?_), b4, b5, b6⟩
        · rw [b6] at z
          cases z
        · rw [b6] at z
          cases z
      · obtain ⟨o, es, ep, e, hd, _⟩ := hns
        rw [z, hTp] at e
        cases e
        cases hd
    have e0 : Env0 P w K mg (hidT s₁.heap H) callerA [] s₁ H := ⟨rfl, hM, fun b o e => of_hidT e, Nat.le_of_eq (hidT_size _ _), trivial, fun b hb => absurd (show b ∈ ([] : List Addr) from hb) (by simp), hok, .of_eq hg⟩
    refine codeAny_mono ((F _ hKb (nsK hns) TB).run callerA [] s₁ H ⟨[.ref a], []⟩ [.ref a] [.ref a] _ _ hr rfl e0 (hbind s₁ (.ref a)) (.cons rfl .nil) (hsp H hH hS)) fun r s' h => ?_
    cases r with
    | error e => exact (hCX H e s' h).elim
    | ok fl =>
      cases fl with
      | next => exact False.elim h
      | brk => exact False.elim h
      | cont => exact False.elim h
      | ret u =>
        obtain ⟨v, H', os, bare, un, hok', r', q⟩ := h
        have q' : v = .bl true := q
        subst q'
        obtain rfl : u = Value.bool true := r'
        have key : ∀ b o, b ∉ cs.map (·.2) → s₁.heap.get? b = some o → s'.heap.get? b = some o := fun b o nb e => by
          cases q : H b with
          | none => exact un.keep b o e q (by intro z; exact absurd (show b ∈ ([] : List Addr) from z) (by simp)) (by simp)
          | some u =>
            rcases hO b with z | z | ⟨ob, xs, z⟩
            · rw [q] at z; cases z
            · exact absurd z nb
            · have z2 := un.frzs b ob _ z
              obtain ⟨e1, _⟩ := hok b _ z
              obtain ⟨e2, _⟩ := hok' b _ z2
              rw [e] at e1; cases e1
              exact e2
        have grown : ∀ p ∈ cs, ∃ more : Array Value, s'.heap.get? p.2 = some { cls := .none, data := .fields more } := fun p hp => by
          obtain ⟨more, z⟩ := un.tbls p.2 #[] (hH p hp)
          exact ⟨_, hok' p.2 _ z⟩
        refine ⟨rfl, ⟨fun b o e => ?_, fun b o e => ?_⟩, os, bare⟩
        · by_cases hb : b ∈ cs.map (·.2)
          · obtain ⟨p, hp, ep⟩ := List.mem_map.mp hb
            obtain ⟨more, hm⟩ := grown p hp
            rw [← ep] at e ⊢
            rw [hT p hp] at e
            cases e
            exact .inr (.inl ⟨((C p hp).tab (hT p hp)).isCodeTable, rfl, #[], more, rfl, by rw [Array.empty_append]; exact hm⟩)
          · exact .inl (key b o hb e)
        · by_cases hb : b ∈ cs.map (·.2)
          · obtain ⟨p, hp, ep⟩ := List.mem_map.mp hb
            obtain ⟨more, hm⟩ := grown p hp
            rw [← ep]
            exact ⟨_, hm⟩
          · exact ⟨o, key b o hb e⟩
  cases hk : K.lookup a with
  | some o =>
    have e := KX a o hk
    rw [ha] at e
    cases e
    refine core (fun b => if b ∈ cs.map (·.2) then some (.tbl #[]) else none) (fun p hp => if_pos (memT p hp)) (fun b => ?_) (.inr ⟨_, vs.toArray, _, hk, rfl, rfl, rfl, by rw [List.size_toArray, lenV]; exact hl, by simpa using rv⟩) (fun b u z => ?_) (fun b z => ?_) fun z => absurd (show (if a ∈ cs.map (·.2) then some (HO.tbl #[]) else none) = none from if_neg aT) z
    · by_cases hb : b ∈ cs.map (·.2)
      · exact .inr (.inl hb)
      · exact .inl (if_neg hb)
    · by_cases hb : b ∈ cs.map (·.2)
      · have z' := (if_pos hb).symm.trans z
        cases z'
        exact isT b hb
      · have z' := (if_neg hb).symm.trans z
        cases z'
    · by_cases hb : b ∈ cs.map (·.2)
      · exact .inr hb
      · exact absurd (if_neg hb) z
  | none =>
    refine core (fun b => if b = a then some (.frz { cls := .type "list", data := .seq vs.toArray } (.lst (ns.map V.int))) else if b ∈ cs.map (·.2) then some (.tbl #[]) else none) (fun p hp => (if_neg (show ¬ p.2 = a from fun z => aT (by rw [← z]; exact memT p hp))).trans (if_pos (memT p hp))) (fun b => ?_)
      (.inl (.inr ⟨{ cls := .type "list", data := .seq vs.toArray }, if_pos rfl⟩)) (fun b u z => ?_) (fun b z => ?_) fun _ => hk
    · by_cases hb : b = a
      · exact .inr (.inr ⟨_, _, if_pos hb⟩)
      · by_cases hb2 : b ∈ cs.map (·.2)
        · exact .inr (.inl hb2)
        · exact .inl ((if_neg hb).trans (if_neg hb2))
    · by_cases hb : b = a
      · have z' := (if_pos hb).symm.trans z
        cases z'
        rw [hb]
        exact ⟨ha, by rw [List.length_map]; exact hl, vs, _, rv, ha⟩
      · have z1 := (if_neg hb).symm.trans z
        by_cases hb2 : b ∈ cs.map (·.2)
        · have z' := (if_pos hb2).symm.trans z1
          cases z'
          exact isT b hb2
        · have z' := (if_neg hb2).symm.trans z1
          cases z'
    · by_cases hb : b = a
      · exact .inl hb
      · by_cases hb2 : b ∈ cs.map (·.2)
        · exact .inr hb2
        · exact absurd ((if_neg hb).trans (if_neg hb2)) z
def LawAtSG (l : PySem.W.OpenLaw) (w : World) (K : PySem.W.Frag) (CX : CXT) (k n : Nat) (x : Str) (mg : Str → Option Value) (fa : Addr) (h : Heap) : Prop :=
  ∃ (fd : FuncData) (cs : List (Addr × Addr)) (sp : Sp), (∀ p ∈ cs, h.get? p.2 = some { cls := .none, data := .fields #[] }) ∧ (∀ p ∈ cs, K.lookup p.2 = none) ∧ (∀ p ∈ cs, PySem.W.CodeHd h p.1 p.2) ∧ (∀ (s : Shared) (u : Value), BindsTo s fd ⟨[u], []⟩ [(x, u)]) ∧
    (∀ (H : Hp) (a : Addr) (ns : List Int), ns.length ≤ n → (∀ z ∈ ns, Builtin.Int.intBits z ≤ 1048576) → (∀ p ∈ cs, H p.2 = some (.tbl #[])) → SqL K H a (ns.map V.int) → sp [.ref a] H (fun v _ => v = .bl true) fun _ _ _ => False) ∧
    ∀ base : Heap, K.In base → base.Ns mainGlobals mg → (∀ p ∈ cs, TabB base mg p.1 p.2) → FnOkG l.prog w K mg base CX k fa fd [x] sp
theorem walk_ofTsEG {l : PySem.W.OpenLaw} {n k : Nat} {q : Program} {loose : List Str} {XP : (Str → Option Value) → Heap → Prop} {YP : World → Heap → Prop} {d : DefRec} {CX : World → CXT} {x : Str}
    (hn : l.most = some n) (hn2 : n ≤ sizeLine) (hdf : d.params.defaults = []) (hr : Room k callerA)
    (F : ∀ (w : World) (mg : Str → Option Value) (fa : Addr) (h : Heap), YP w h → h.Ns mainGlobals mg → mg d.name = some (.ref fa) → ∃ K : PySem.W.Frag, K.In h ∧ LawAtSG l w K (CX w) k n x mg fa h)
    (hCX : ∀ (w : World) (H : Hp) (s : Shared) (e : Value) (s' : Shared), CX w [] H s (fun _ _ _ => False) e s' → False) :
    PySem.W.WalkO q loose XP YP l.row.toRowW d [] (fun f vs => PySem.call f vs) := by
  refine Att.attach_callB hn hdf fun w s₀ s₁ mg mb fa o pm cd doc a vs ns G Y ho hd hcd hmg hobj hints hlen hbits hg => ?_
  obtain ⟨K, KX, fd, cs, sp, hT, nT, C, hb, hsp, hF⟩ := F w mg fa _ Y G.T.g hmg
  exact law_callTsG KX G.T.g G.T.b G.T.builtins G.T.nolimit hg hT nT C G.T.bmain hobj hints (Nat.le_trans hlen hn2) hr hF hb (fun H hH hS => hsp H a ns hlen hbits hH hS) fun H e s' => hCX w H s₁ e s'
end LamX
namespace WH
open PySem PySem.Spec L2 PyProof.Rows L2H LamX
theorem rmH64 {k : Nat} {A : Around} (r : RoomH k A) : A.units + 64 < cLine := by have := r.un; omega
section
variable [TabC] {P : Program} {w : World} {K : PySem.W.Frag} {mg : Str → Option Value} {base : Heap}
theorem fn_okCG {x qual : Str} {st : Stmt} {f : Addr} {fd : FuncData} {N ps : List Str} {k : Nat} {C : Ct} {db : DS} {dvs : List V} {kws : List (Str × V)} (F : FunD K x qual (defArgs st) (defBody st) (defScope st) dvs kws f fd) (S : FnScope N ps (defScope st)) (len : ∀ ds R Xd, C ds R Xd → ds.length = ps.length)
    (hbody : ∀ (A : Around) (outer : List Env) (s : Shared) (H : Hp) (E : XK), A.guards = some [] → Room k (A.deeper (PyProof.Rows.envOfC qual (defScope st) s.heap.objs.size f fd.code)) → @QSs _ objNil (cxOf (L2N.CX P w) P w K mg base N qual (defScope st) f fd.code A outer s H E) (WF mg E) (defBody st) db)
    (h : ∀ ds R Xd, C ds R Xd → db { nx := fun _ => R (.sh .none), rt := R, ex := fun x _ => Xd x } (st0 N ds)) : FnOkG P w K mg base (L2N.CX P w) (k + 1) f fd ps (PSp K mg C) := by
  letI : ObjB := objNil
  obtain ⟨oc, od, dV, kV, doc, pm, an, cdv, ct, osl, rfl, lk, hcd, _, _⟩ := F.ex
  refine fn_ofG lk hcd S (fun vs H Q E h => ?_) (fun A outer s H vs Q E hgd hr hsp => ⟨_, hbody A outer s H E hgd hr, ?_⟩)
  · obtain ⟨G, ds, R, Xd, _, _, r, c, _⟩ := h
    rw [rpa_length r]
    exact len _ _ _ c
  · obtain ⟨G, ds, R, Xd, gh, tb, r, c, rt, ex⟩ := hsp
    refine ⟨G, H, G, _, _, ok_start gh tb r sameNil, h ds R Xd c, fun G' H' σ' ρ' k' q => rt (.sh .none) _ _ (retSh k' .non) q, rt, fun _ _ _ _ _ z => z.elim, fun _ _ _ _ _ z => z.elim, fun G' H' σ' ρ' x cls d k' e q => ex G' H' x cls d k'.g0 k'.h0 k'.gn k'.nw e q⟩
end
theorem FnOkG.mono {P : Program} {w : World} {K : PySem.W.Frag} {mg : Str → Option Value} {base : Heap} {CX : CXT} {j k : Nat} {f : Addr} {fd : FuncData} {ps : List Str} {sp : Sp} (F : LamX.FnOkG P w K mg base CX j f fd ps sp) (h : j ≤ k) : LamX.FnOkG P w K mg base CX k f fd ps sp := ⟨F.len, fun A outer s H args us vs Q E hr => F.run A outer s H args us vs Q E (hr.mono h)⟩
end WH
namespace WH
open PySem PySem.Spec L2
variable [TabC] [ObjB]
section
variable {X : Cx} {W : XW} {e : Expr} {p pos : Pos}
theorem Ex.rd {H H' : Hp} (e : Ex H H') {a : Addr} {u : HO} (n : NTb u) (h : Rd H a u) : Rd H' a u := by
  rcases h with h | ⟨o, h⟩
  · exact .inl (e.at h n)
  · exact .inr ⟨o, e.at h (fun _ z => by cases z)⟩
end
end WH
namespace WH
open PySem PySem.Spec L2
theorem ns_mix' {H0 H : Hp} {fp : List Addr} {a : Addr} (ne : a ∉ fp) (h : NS H0 a) : NS (mixH H0 H fp) a := by
  unfold NS NF at h ⊢
  rw [nt_congr (mix_out ne), mix_out ne]
  exact h
variable [TabC] [ObjB]
abbrev DST := DEndsT → Sto → Tau → Prop
section
variable {X : Cx} {W : XW}
def tIf (t : DT) (a b : DST) : DST := fun D ρ τ => t ρ (fun c => if c = true then a D ρ τ else b D ρ τ) (fun x => D.ex x ρ)
@[simp] theorem s_tIf (t : DT) (a b : DST) (D : DEndsT) (ρ : Sto) (τ : Tau) : tIf t a b D ρ τ ↔ t ρ (fun c => if c = true then a D ρ τ else b D ρ τ) (fun x => D.ex x ρ) := Iff.rfl
theorem OkT.rebase {K : PySem.W.Frag} {G0 H0 G H : Hp} {σ : L2.St} {ρ : Sto} {τ : Tau} (k : OkT K G0 H0 G H σ ρ τ) : OkT K G H0 G H σ ρ τ := by
  obtain ⟨fp, k, tr, nd, fr, h0⟩ := k
  exact ⟨fp, k.rebase, tr, nd, fun a ha => ⟨(fr a ha).1, (fr a ha).2.2, (fr a ha).2.2⟩, h0⟩
theorem OkT.unbase {K : PySem.W.Frag} {G0 H0 G H G' H' : Hp} {σ σ' : L2.St} {ρ ρ' : Sto} {τ τ' : Tau} (k : OkT K G0 H0 G H σ ρ τ) (k' : OkT K G H0 G' H' σ' ρ' τ') : OkT K G0 H0 G' H' σ' ρ' τ' := by
  obtain ⟨g0, gn, nw⟩ := k.base
  obtain ⟨fp', k', tr', nd', fr', h0'⟩ := k'
  have hn := tr_node tr'
  refine ⟨fp', ⟨k'.gn, g0.trans k'.g0, k'.h0, k'.tb, fun a o e => ?_, k'.len, k'.sh, k'.ow, k'.ap, k'.rw, k'.tr, k'.bB⟩, tr', nd', fun a ha => ⟨(fr' a ha).1, ?_, (fr' a ha).2.2⟩, h0'⟩
  · rcases k'.nw a o e with z | z
    · rcases nw a o z with y | y
      · exact .inl y
      · refine .inr (ns_mix' (fun m => ?_) y)
        have := (fr' a m).2.2
        rw [e] at this
        cases this
    · exact .inr z
  · cases q : G0 a with
    | none => rfl
    | some o =>
      have := g0 a o q
      rw [(fr' a ha).2.1] at this
      cases this
end
end WH
namespace WH
open PySem PySem.Spec L2
variable [TabC] [ObjB]
theorem mix_nil {H0 H : Hp} : mixH H0 H [] = H0 := by
  funext a
  exact mix_out (by simp)
theorem Ok.up {K : PySem.W.Frag} {G0 H0 G H : Hp} {σ : L2.St} {ρ : Sto} (k : Ok K G0 H0 G H σ ρ) : OkT K G0 H0 G H σ ρ [] := ⟨[], by rw [mix_nil]; exact k, .nil, List.nodup_nil, (fun _ h => nomatch h), k.h0⟩
def dn (ds : DST) : DS := fun D ρ => ds { nx := fun ρ' _ => D.nx ρ', rt := D.rt, ex := D.ex, bk := fun ρ' _ => D.bk ρ', ct := fun ρ' _ => D.ct ρ' } ρ []
@[simp] theorem s_dn (ds : DST) (D : DEnds) (ρ : Sto) : dn ds D ρ ↔ ds { nx := fun ρ' _ => D.nx ρ', rt := D.rt, ex := D.ex, bk := fun ρ' _ => D.bk ρ', ct := fun ρ' _ => D.ct ρ' } ρ [] := Iff.rfl
end WH
namespace WH
open PySem PySem.Spec PyProof.Rows L2
inductive IsDI (H : Hp) (a : Addr) : List (V × V) → Prop
  | dk {kvs : List (Key × V)} : Rd H a (.dK kvs) → IsDI H a (kvs.map fun p => (kV p.1, p.2))
  | dt {kvs : List (List Key × V)} {bs : List Addr} : Rd H a (.dT kvs) → Paired (fun b (p : List Key × V) => H b = some (.tup (p.1.map kV))) bs kvs → IsDI H a ((bs.zip kvs).map fun z => (V.ref z.1, z.2.2))
end WH
namespace WH
open PySem PySem.Spec L2 PyProof.Rows L2H LamX
theorem ecB_ok {K : PySem.W.Frag} {D : Addr} (h : ecB K D = true) : ExcC K D := by
  simp only [ecB, Bool.and_eq_true, decide_eq_true_eq] at h
  obtain ⟨h1, h2, h3, h4, h5, h6, h7, h8⟩ := h
  exact ⟨h1, h2, h3, h4, h5, h6, h7, h8⟩
theorem calB_ok {K : PySem.W.Frag} {mg : Str → Option Value} {nm : Str} (h : calB K nm = true) (hn : nm ∈ callNames) (hm : ∀ c ∈ callNames, mg c = some (.ref (He.ga K c))) : CalF K mg nm (He.ga K nm) := by
  simp only [calB, Bool.and_eq_true, List.all_eq_true, decide_eq_true_eq] at h
  obtain ⟨h1, h2, h3, h4⟩ := h
  exact ⟨hm nm hn, ecB_ok h1, xfB_ok h2, h3, fun c hc => ⟨_, hm c hc, h4 c hc⟩⟩
theorem trB_ok {K : PySem.W.Frag} {mg : Str → Option Value} {nm : Str} {c : Nat} (h : trB K (nm, c) = true) (hm : ∀ c ∈ callNames, mg c = some (.ref (He.ga K c))) : ∃ D, mg nm = some (.ref D) ∧ TrF K mg (clsT K) nm D c := by
  simp only [trB, Bool.and_eq_true, List.all_eq_true, decide_eq_true_eq, List.contains_iff_mem, List.mem_range] at h
  obtain ⟨h1, h2, h3, h4⟩ := h
  exact ⟨_, hm nm h1, calB_ok h2 h1 hm, h1, h3, h4⟩
theorem code_at {K : PySem.W.Frag} {x qual : Str} {params : Arguments} {body : List Stmt} {scope : Scope} {dvs : List V} {kws : List (Str × V)} {p : He.Defn} {fd : FuncData} (F : FunD K x qual params body scope dvs kws (He.fAd K p) fd) : fd.code = .ref (He.cT K p).1 := by
  obtain ⟨oc, od, dV, kV, doc, pm, an, cdv, ct, osl, rfl, lk, hcd, _, _⟩ := F.ex
  obtain ⟨c, rfl⟩ := He.codeIn_ref hcd
  have := He.codeOf_eq lk (c := c) rfl
  show _ = Value.ref (He.codeOf K p)
  rw [this]
end WH
namespace WH
open PySem PySem.Spec PyProof.Rows L2
abbrev StO (ft : Bool) (a : Addr) (S : Int → Bool) (n : Nat) : HO := .ext (setP ft a S n)
theorem sto_at {P : Program} {w : World} {H : Hp} {h : Heap} {a b : Addr} {S : Int → Bool} {n : Nat} {ft : Bool} (hok : HOk P w H h) (r : H a = some (StO ft b S n)) : b = a := by
  obtain ⟨h1, h2, h3⟩ := hok a _ r
  by_cases e : b = a
  · exact e
  · exfalso
    have hg : setP ft b S n { h with objs := h.objs.setIfInBounds b { cls := .none, data := .fields #[] } } := h3 h _ h1 fun o ho => by
      unfold Heap.get? at ho ⊢
      rw [Array.getElem?_setIfInBounds_ne (fun z => e z)]
      exact ho
    obtain ⟨o, es, ep, t, ho, hex, hdt, _⟩ := hg
    unfold Heap.get? at ho
    rw [Array.getElem?_setIfInBounds] at ho
    simp only [if_true] at ho
    by_cases hb : b < h.objs.size
    · simp only [hb, if_true] at ho
      cases ho
      cases hdt
    · simp only [hb, if_false] at ho
      cases ho
def SetF (w : World) [TabC] : Prop := w.params.followText "set-order" = TabC.ft
theorem setO_is [TabC] {w : World} (hf : SetF w) (a : Addr) (S : Int → Bool) (n : Nat) : StO TabC.ft a S n = SetO w a S n := by
  unfold StO SetO setP
  rw [← show w.params.followText "set-order" = TabC.ft from hf]
  rfl
section
variable [TabC] {X : Cx}
def rNotInB : R2 := fun x y H Q => ∃ k a b S n, x = V.int k ∧ y = V.ref a ∧ H a = some (StO TabC.ft b S n) ∧ Q (.bl (!S k)) H
theorem or_notInB (hf : SetF X.w) : OpR X (compareOp .NotIn) rNotInB := by
  intro pins s σ H x y v u Q I rx ry h
  obtain ⟨k, a, b, S, n, rfl, rfl, ha, q⟩ := h
  have e := sto_at I.hok ha
  subst e
  rw [setO_is hf] at ha
  exact or_snotin pins s σ H _ _ v u Q I rx ry ⟨k, b, S, n, rfl, rfl, ha, q⟩
def tSAddB (to : TE) (t : TA) : TE := fun σ H Q => to σ H fun x H1 => (∃ a b S n, x = V.ref a ∧ H1 a = some (StO TabC.ft b S n)) ∧ t σ H1 fun xs H2 => ∃ a b k S n, x = V.ref a ∧ xs = [V.int k] ∧ H2 a = some (StO TabC.ft b S n) ∧ n + 1 < scanBound ∧
  Q .non (upd H2 a (StO TabC.ft a (fun j => S j || decide (j = k)) (if S k = true then n else n + 1)))
theorem pe_saddB {o e : Expr} {es : List Expr} {to : TE} {t : TA} {apos cpos : Pos} (hf : SetF X.w) (ho : PE X o to) (ha : PA X (e :: es) t)
    (hbase : attributeBase o "add" X.env (eval o X.env) = eval o X.env := by rfl)
    (hfew : ((backTo cpos (starEach (e :: es) X.env)).all (fun x => !x.1) && (backToKw cpos (keywordEach [] X.env)).all (fun x => x.1.isSome)
      && decide ((e :: es).length + ([] : List Keyword).length + (if ([] : List Keyword).isEmpty then 0 else 1) < 30)) = true := by rfl)
    (hline : (apos.endLine == cpos.line) = true := by rfl) (hs : starEach (e :: es) X.env = (false, eval e X.env) :: starEach es X.env := by rfl) (hplain : (backTo cpos (starEach es X.env)).any (·.1) = false := by rfl) :
    PE X (.Call (.Attribute o "add" apos) (e :: es) [] cpos) (tSAddB to t) := by
  refine ⟨fun pins s σ H Q I h => ?_⟩
  refine wpAny_Call_method_late hbase hfew hline rfl (thn (ho.run pins s σ H _ I h) fun v s1 ⟨x, H1, I1, r1, ty, q1⟩ => ?_)
  obtain ⟨a, b, S, n, rfl, hka⟩ := ty
  have e := sto_at I1.hok hka
  subst e
  rw [setO_is hf] at hka
  have R := setO_get I1 hka
  cases r1
  have hS : s1.heap.SetOf (intKind X.prog X.w) b S n := R.setOf
  refine ⟨"set", "set.add", F.plainAttrs_set, F.slot_set_add, F.type_set_add, hS.typeIs, hS.noDict, ?_⟩
  have hA := ha.run cpos pins s1 σ H1 _ I1 q1
  rw [hs] at hA ⊢
  refine Calls.callWith_builtin (by show (false || (backTo cpos (starEach es X.env)).any (·.1)) = false; rw [hplain] <;> rfl) (Calls.evalArgs_plain ?_)
  refine thn hA fun us s2 ⟨vs, H2, I2, r2, q2⟩ => ?_
  obtain ⟨a', b', k, S', n', e1, rfl, hk2, room, q3⟩ := q2
  cases e1
  have e := sto_at I2.hok hk2
  subst e
  rw [setO_is hf] at hk2
  refine mt_sadd pins s2 σ H2 (.ref b') [V.int k] (.ref b') us Q I2 rfl r2 ⟨b', k, S', n', rfl, rfl, hk2, room, ?_⟩
  rw [← setO_is hf]
  exact q3
def rSrtB : List V → Hp → VK → Prop := fun vs H Q => ∃ (a b : Addr) (S : Int → Bool) (n : Nat), vs = [V.ref a] ∧ H a = some (StO TabC.ft b S n) ∧ n < 64 ∧
  ∀ (ns : List Int) (p : Addr), ns.Pairwise (· < ·) → (∀ k : Int, k ∈ ns ↔ S k = true) → ns.length = n → H p = none → Q (.ref p) (upd H p (.lst (ns.map V.int)))
theorem cr_srtB (hf : SetF X.w) (hc : X.calm = true) : CallR X (.builtin "sorted") rSrtB := by
  intro pins s σ H vs us Q I r h
  obtain ⟨a, b, S, n, rfl, ha, h64, q⟩ := h
  have e := sto_at I.hok ha
  subst e
  rw [setO_is hf] at ha
  exact cr_sortedSet hc pins s σ H [V.ref b] us Q I r ⟨b, S, n, rfl, ha, h64, q⟩
theorem newSet_led {P : Program} {w : World} {A : Around} {E : Value → Shared → Prop} {s : Shared} {Q : Value → Shared → Prop}
    (h : Q (.ref s.heap.objs.size) { s with heap := s.heap.push { cls := .type "set", dict := none, data := .set #[] 0 (.fresh 0 0 (!w.params.followText "set-order")) } }) : wpAny (model P w) A (newSet (.type "set")) Q E s := by
  unfold newSet setsByText
  refine wpAny_bind (wpAny_bind (wpAny_askSetting (wpAny_pure ?_)))
  dsimp only
  simp only [newObj]
  exact wpAny_bind (wpAny_alloc (wpAny_pure h))
theorem kds_core1 {P : Program} {w : World} {A : Around} {E : Value → Shared → Prop} {s : Shared} {road : DisplayRoad} {b : Bool} {elts : List (Bool × Sem Value)} {ts : List (Sem Value)} {Q : Value → Shared → Prop} (hroad : (road == .constants) = false) (hs : elts.findIdx? (·.1) = none) (hlen : elts.length ≤ 30) (hm : elts.map (·.2) = ts)
    (h : wpAny (model P w) A (evalAll ts) (fun vs s' => PySem.W.KdsFill (model P w) A E (road == .unsure) s.heap.objs.size Q vs s') E { s with heap := s.heap.push { cls := .type "set", dict := none, data := .set #[] 0 (.fresh 0 0 (!w.params.followText "set-order")) } }) :
    wpAny (model P w) A (setDisplay road b elts) Q E s := by
  have hn : (if elts.length > 30 then 0 else (elts.findIdx? (·.1)).getD elts.length) = elts.length := by rw [if_neg (by omega), hs]; rfl
  unfold setDisplay
  try dsimp only
  rw [if_neg (by rw [hroad]; exact Bool.false_ne_true)]
  refine wpAny_bind (newSet_led ?_)
  dsimp only
  rw [hn, List.take_length, List.drop_length, hm]
  refine wpAny_bind (wpAny_holding ?_)
  refine wpAny_bind (wpAny_mono h (fun vs s' h' => ?_) fun _ _ x => x)
  refine wpAny_bind (wpAny_holding ?_)
  refine wpAny_bind (wpAny_mono (PySem.W.kds_for (fun x P s hx => ?_) vs s' h') (fun _ s1 h1 => ?_) fun _ _ x => x)
  · refine wpAny_bind (wpAny_mono hx (fun _ s2 h2 => ?_) fun _ _ x => x)
    first | exact wpAny_pure ⟨rfl, h2⟩ | exact wpAny_bind (wpAny_pure (wpAny_pure ⟨rfl, h2⟩))
  · cases hu : (road == DisplayRoad.unsure) with
    | false =>
      rw [hu] at h1
      have h2 : Q (.ref s.heap.objs.size) s1 := by simpa [PySem.W.KdsFill] using h1
      rw [if_neg Bool.false_ne_true]
      refine wpAny_pure ?_
      rw [List.forIn_nil]
      exact wpAny_pure (wpAny_pure h2)
    | true =>
      rw [hu] at h1
      have h2 : wpAny (model P w) A (setUnled s.heap.objs.size) (fun _ s' => Q (.ref s.heap.objs.size) s') E s1 := by simpa [PySem.W.KdsFill] using h1
      rw [if_pos rfl]
      refine wpAny_bind (wpAny_rule (wpAny_mono h2 (fun _ s3 h3 => ?_) fun _ _ x => x))
      rw [List.forIn_nil]
      exact wpAny_pure (wpAny_pure h3)
def tSet1 (i : Nat) : TE := fun σ H Q => ∃ k, σ[i]? = some (some (V.int k)) ∧ ∀ D, H D = none → Q (.ref D) (upd H D (StO TabC.ft D (fun j => decide (j = k)) 1))
theorem pe_set1 {i : Nat} {x : Str} {p1 pos : Pos} (hf : SetF X.w) (hv : PE X (.Name x p1) (tVar i)) (hcd : PySem.W.kdsCode X.K X.env.code = true) : PE X (.Set [.Name x p1] 0 pos) (tSet1 i) := by
  refine ⟨fun pins s σ H Q I h => ?_⟩
  obtain ⟨k, hk, q⟩ := h
  have hD : H s.heap.objs.size = none := I.hok.fresh (Nat.le_refl _)
  rw [arm_eval_Set]
  refine wpAny_bind (wpAny_standAt ?_)
  refine wpAny_bind (PySem.W.kds_main I.kIn hcd fun b => ?_)
  rw [PySem.W.kds_star _ rfl, List.map_map]
  refine kds_core1 (ts := (evalEach [Expr.Name x p1] X.env).map fun t => do let v ← t; standAt pos; pure v) rfl ?_ ?_ ?_ ?_
  · refine List.findIdx?_eq_none_iff.mpr fun x hx => ?_
    obtain ⟨t, _, rfl⟩ := List.mem_map.mp hx
    rfl
  · rw [List.length_map, PySem.W.kds_len]
    show 1 ≤ 30
    omega
  · rw [List.map_map]
    try rfl
  have new := setR_fresh (h := s.heap) X.w
  have I1 : Inv X pins σ (upd H s.heap.objs.size (SetO X.w s.heap.objs.size (fun _ => false) 0)) { s with heap := s.heap.push { cls := .type "set", dict := none, data := .set #[] 0 (.fresh 0 0 (!X.w.params.followText "set-order")) }, toks := s.toks } :=
    I.laid (t' := s.toks) (fun b u e => Heap.get?_push_of_some _ e) (Nat.le_refl _) (setO_new new)
  refine PySem.W.kds_all pos [Expr.Name x p1] _ _ ?_
  show wpAny _ X.A (eval (.Name x p1) X.env) (fun v s' => PySem.W.KdsFill (model X.prog X.w) X.A X.xe _ s.heap.objs.size _ [v] s') X.xe _
  refine thn (hv.run pins _ σ _ (fun v H1 => v = .int k ∧ H1 = upd H s.heap.objs.size (SetO X.w s.heap.objs.size (fun _ => false) 0)) I1 ⟨_, hk, rfl, rfl⟩) fun v s2 ⟨y, H2, I2, ry, e1, e2⟩ => ?_
  subst e1 e2
  obtain ⟨tk, rfl⟩ := ry
  refine PySem.W.kds_fill_cons ?_
  have ha2 : (upd H s.heap.objs.size (SetO X.w s.heap.objs.size (fun _ => false) 0)) s.heap.objs.size = some (SetO X.w s.heap.objs.size (fun _ => false) 0) := upd_same
  have R := setO_get I2 ha2
  unfold setAdd
  refine wpAny_holding ?_
  refine wpAny_bind ((intKind X.prog X.w).pyHash (intKind_is X.prog X.w k tk) ?_)
  refine setR_add_hashed R (by decide) fun h' sb r => ?_
  refine PySem.W.kds_fill_nil rfl ?_
  have he : ∃ u, h'.get? s.heap.objs.size = some u := by
    have ⟨o, _, _, _, ho, _⟩ := r
    exact ⟨o, ho⟩
  refine ⟨.ref _, _, I2.write (e := s.heap.objs.size) (t' := s2.toks + 1) (by rw [ha2]; trivial) (.inl rfl) (fun b u hb hu => (sb.2 b hb).trans hu) he (setO_new r), rfl, ?_⟩
  have := q _ hD
  rw [setO_is hf] at this
  rw [upd_upd]
  simpa using this
end
section
variable [TabC] [ObjB] {X : Cx} {W : XW}
theorem own_set {K : PySem.W.Frag} {G0 H0 G H : Hp} {σ : L2.St} {ρ : Sto} {i : Nat} {S : Int → Bool} {n : Nat} (k : Ok K G0 H0 G H σ ρ) (hi : ρ[i]? = some (Slot.ow (.set S n))) : ∃ a b, σ[i]? = some (some (V.ref a)) ∧ H a = some (StO TabC.ft b S n) ∧ G a = none ∧ NF H0 a := by
  obtain ⟨a, ho, h1, h2, h3, h4, h5⟩ := k.ow i _ hi
  cases ho with
  | ext φ =>
    obtain ⟨b, rfl⟩ := h5
    exact ⟨a, b, h1, h2, h3, h4⟩
  | _ => exact h5.elim
def oSet1 (i : Nat) : DO := fun ρ Q _ => ∃ k, ρ[i]? = some (Slot.sh (.int k)) ∧ Q (.set (fun j => decide (j = k)) 1)
@[simp] theorem s_oSet1 (i : Nat) (ρ : Sto) (Q : OD → Prop) (u : XD) : oSet1 i ρ Q u ↔ ∃ k, ρ[i]? = some (Slot.sh (.int k)) ∧ Q (.set (fun j => decide (j = k)) 1) := Iff.rfl
theorem qo_set1 {i : Nat} {x : Str} {p1 pos : Pos} (hf : SetF X.w) (hcd : PySem.W.kdsCode X.K X.env.code = true) (hN : X.N[i]? = some x := by rfl) (hv : Vis X.env.scope x := by first | exact Or.inl rfl | exact Or.inr (Or.inl rfl) | exact Or.inr (Or.inr rfl))
    (hd : (x == ("__debug__" : Str)) = false := by decide) (hcd2 : (x == ("__classdict__" : Str)) = false := by decide) : QO X W (.Set [.Name x p1] 0 pos) (oSet1 i) := PE.sub (pe_set1 hf (pe_var hN hv hd hcd2) hcd) fun σ H Q h => by
  obtain ⟨G0, H0, G, ρ, Qd, Xd, k, ⟨kk, hi, q⟩, fn, xo⟩ := h
  obtain ⟨v, h1, h2⟩ := k.sh i _ hi
  cases h2
  exact ⟨kk, h1, fun D hD => fin_own (ho := StO TabC.ft D (fun j => decide (j = kk)) 1) (o := .set (fun j => decide (j = kk)) 1) k fn ⟨D, rfl⟩ q D hD⟩
def dSetNI (da : DE) (i : Nat) : DE := fun ρ Q u => da ρ (fun d => ∃ k S n, d = .int k ∧ ρ[i]? = some (Slot.ow (.set S n)) ∧ Q (.bool (!S k))) u
@[simp] theorem s_dSetNI (da : DE) (i : Nat) (ρ : Sto) (Q : PyData → Prop) (u : XD) : dSetNI da i ρ Q u ↔ da ρ (fun d => ∃ k S n, d = .int k ∧ ρ[i]? = some (Slot.ow (.set S n)) ∧ Q (.bool (!S k))) u := Iff.rfl
theorem up_setNI {da : DE} {i : Nat} (σ : L2.St) (H : Hp) (Q : VK) (h : upE X.K W (dSetNI da i) σ H Q) : tOp rNotInB (upE X.K W da) (tVar i) σ H Q := by
  obtain ⟨G0, H0, G, ρ, Qd, Xd, k, h, fn, xo⟩ := h
  refine ⟨G0, H0, G, ρ, _, Xd, k, h, fun G1 H1 x d k1 g1 rx hb => ?_, xo⟩
  obtain ⟨kk, S, n, rfl, hi, q⟩ := hb
  obtain ⟨a, b, h1, h2, _, _⟩ := own_set k1 hi
  cases rx
  exact ⟨_, h1, kk, a, b, S, n, rfl, rfl, h2, fn G1 H1 _ _ k1 g1 (.bl _) q⟩
theorem qt_setNI {a : Expr} {da : DE} {i : Nat} {x : Str} {p1 pos : Pos} (hf : SetF X.w) (ha : QE X W a da) (hN : X.N[i]? = some x := by rfl) (hv : Vis X.env.scope x := by first | exact Or.inl rfl | exact Or.inr (Or.inl rfl) | exact Or.inr (Or.inr rfl)) (hm : behindInMarks .NotIn (.Name x p1) = false := by with_unfolding_all rfl)
    (hd : (x == ("__debug__" : Str)) = false := by decide) (hcd2 : (x == ("__classdict__" : Str)) = false := by decide) : QT X W (.Compare a [.NotIn] [.Name x p1] pos) (dTst (dSetNI da i)) := PT.sub (pt_cmpR (or_notInB hf) ha (pe_var hN hv hd hcd2) hm) (up_tst up_setNI)
def dSetAdd (i : Nat) (de : DE) : DS := fun D ρ => (∃ S n, ρ[i]? = some (Slot.ow (.set S n))) ∧ de ρ (fun d => ∃ k S n, d = .int k ∧ ρ[i]? = some (Slot.ow (.set S n)) ∧ n < 1000 ∧ D.nx (ρ.set i (.ow (.set (fun j => S j || decide (j = k)) (if S k = true then n else n + 1))))) (D.xd ρ)
@[simp] theorem s_dSetAdd (i : Nat) (de : DE) (D : DEnds) (ρ : Sto) : dSetAdd i de D ρ ↔ (∃ S n, ρ[i]? = some (Slot.ow (.set S n))) ∧ de ρ (fun d => ∃ k S n, d = .int k ∧ ρ[i]? = some (Slot.ow (.set S n)) ∧ n < 1000 ∧ D.nx (ρ.set i (.ow (.set (fun j => S j || decide (j = k)) (if S k = true then n else n + 1))))) (D.xd ρ) := Iff.rfl
theorem qs_sadd {i : Nat} {x : Str} {e : Expr} {de : DE} {p1 p2 p3 pos : Pos} (hf : SetF X.w) (he : QE X W e de) (hp : PE X (.Name x p1) (tVar i)) (hs : swapsWith (.Call (.Attribute (.Name x p1) "add" p2) [e] [] p3) none pos.line X.env = pure false := by rfl)
    (hst : starEach [e] X.env = (false, eval e X.env) :: starEach [] X.env := by rfl)
    (hbase : attributeBase (.Name x p1) "add" X.env (eval (.Name x p1) X.env) = eval (.Name x p1) X.env := by rfl)
    (hfew : ((backTo p3 (starEach [e] X.env)).all (fun x => !x.1) && (backToKw p3 (keywordEach [] X.env)).all (fun x => x.1.isSome)
      && decide ([e].length + ([] : List Keyword).length + (if ([] : List Keyword).isEmpty then 0 else 1) < 30)) = true := by rfl)
    (hline : (p2.endLine == p3.line) = true := by rfl) :
    QS X W (.Expr (.Call (.Attribute (.Name x p1) "add" p2) [e] [] p3) pos) (dSetAdd i de) := PS.sub (ps_expr (pe_saddB hf hp (pa_cons he pa_nil hst) hbase hfew hline hst) hs) fun D σ H h => by
  obtain ⟨G0, H0, G, ρ, Dd, k, ⟨⟨S0, n0, hi0⟩, h⟩, nx, rt, bk, ct, ex⟩ := h
  obtain ⟨a, b, h1, h2, h3, h4⟩ := own_set k hi0
  refine ⟨_, h1, ⟨a, b, S0, n0, rfl, h2⟩, G0, H0, G, ρ, _, Dd.xd ρ, k, h, fun G1 H1 v d k1 g1 rv q => ?_, xok_of ex⟩
  obtain ⟨kk, S, n, rfl, hi, hn, q⟩ := q
  obtain ⟨a', b', h1', h2', h3', h4'⟩ := own_set k1 hi
  rw [h1] at h1'
  cases h1'
  cases rv
  refine ⟨a, b', kk, S, n, rfl, rfl, h2', by unfold scanBound; omega, ?_⟩
  exact nx G1 _ σ _ (k1.mutOw (ho' := StO TabC.ft a (fun j => S j || decide (j = kk)) (if S kk = true then n else n + 1)) (o' := .set (fun j => S j || decide (j = kk)) (if S kk = true then n else n + 1)) hi h1 ⟨a, rfl⟩) q
def oSrtN (i : Nat) : DO := fun ρ Q _ => ∃ S n, ρ[i]? = some (Slot.ow (.set S n)) ∧ n < 64 ∧ ∀ ns : List Int, ns.Pairwise (· < ·) → (∀ k : Int, k ∈ ns ↔ S k = true) → ns.length = n → Q (.lst (ns.map .int))
@[simp] theorem s_oSrtN (i : Nat) (ρ : Sto) (Q : OD → Prop) (u : XD) : oSrtN i ρ Q u ↔ ∃ S n, ρ[i]? = some (Slot.ow (.set S n)) ∧ n < 64 ∧ ∀ ns : List Int, ns.Pairwise (· < ·) → (∀ k : Int, k ∈ ns ↔ S k = true) → ns.length = n → Q (.lst (ns.map .int)) := Iff.rfl
theorem qo_srtN {i : Nat} {x : Str} {p p1 pos : Pos} (hf : SetF X.w) (hc : X.calm = true) (hm : X.mg "sorted" = none) (hN : X.N[i]? = some x := by rfl) (hv : Vis X.env.scope x := by first | exact Or.inl rfl | exact Or.inr (Or.inl rfl) | exact Or.inr (Or.inr rfl)) (hg : Gl X "sorted" := by rfl)
    (he : starEach [.Name x p1] X.env = (false, eval (.Name x p1) X.env) :: starEach [] X.env := by rfl) (hd : (x == ("__debug__" : Str)) = false := by decide) (hcd2 : (x == ("__classdict__" : Str)) = false := by decide) : QO X W (.Call (.Name "sorted" p) [.Name x p1] [] pos) (oSrtN i) :=
  PE.sub (pe_callB (cr_srtB hf hc) hg hm (by decide +kernel) (pa_cons (pe_var hN hv hd hcd2) pa_nil he) (he := he)) fun σ H Q h => by
    obtain ⟨G0, H0, G, ρ, Qd, Xd, k, ⟨S, n, hi, h64, q⟩, fn, xo⟩ := h
    obtain ⟨a, b, h1, h2, h3, h4⟩ := own_set k hi
    refine ⟨_, h1, a, b, S, n, rfl, h2, h64, fun ns p hs hm hl hp => ?_⟩
    exact fin_own (ho := .lst (ns.map V.int)) (o := .lst (ns.map .int)) k fn (show RpAll _ _ _ _ from rpa_ints ns) (q ns hs hm hl) p hp
theorem fn_okCK {P : Program} {w : World} {K : PySem.W.Frag} {mg : Str → Option Value} {base : Heap} {x qual : Str} {st : Stmt} {f : Addr} {fd : FuncData} {N ps : List Str} {k : Nat} {C : Ct} {db : DS} {dvs : List V} {kws : List (Str × V)} (F : FunD K x qual (defArgs st) (defBody st) (defScope st) dvs kws f fd) (S : FnScope N ps (defScope st)) (len : ∀ ds R Xd, C ds R Xd → ds.length = ps.length)
    (hbody : ∀ (A : Around) (outer : List Env) (s : Shared) (H : Hp) (E : XK), PySem.W.kdsCode K fd.code = true → Room k (A.deeper (PyProof.Rows.envOfC qual (defScope st) s.heap.objs.size f fd.code)) → @QSs _ objNil (cxOf (L2N.CX P w) P w K mg base N qual (defScope st) f fd.code A outer s H E) (WF mg E) (defBody st) db)
    (h : ∀ ds R Xd, C ds R Xd → db { nx := fun _ => R (.sh .none), rt := R, ex := fun x _ => Xd x } (st0 N ds)) : FnOk P w K mg base (L2N.CX P w) (k + 1) f fd ps (PSp K mg C) := by
  have hkd : PySem.W.kdsCode K fd.code = true := by
    obtain ⟨oc, od, dV, kV, doc, pm, an, cdv, ct, osl, rfl, lk, hcd, _, _⟩ := F.ex
    exact kdsCode_of hcd
  exact fn_okC F S len (fun A outer s H E hr => hbody A outer s H E hkd hr) h
end
end WH
namespace WH
open PySem PySem.Spec PyProof.Rows L2 PpSet
open PySem.F hiding entry_type_call
section
variable {P : Program} {w : World} {A : Around} {E : Value → Shared → Prop} {s : Shared}
theorem call_set_lstI {l : Addr} {items : Array Value} (ns : List Int) {Q : Value → Shared → Prop} (hh : A.handled = none) (hl : s.heap.IsList l items) (hit : IntsAre items.toList ns) (hb : ns.length + 1 < scanBound)
    (h : ∀ (h' : Heap) (tk c : Nat), SetR w h' s.heap.objs.size (fun j => decide (j ∈ ns)) c → c ≤ ns.length → (∀ b o, s.heap.get? b = some o → h'.get? b = some o) → Q (.ref s.heap.objs.size) { s with heap := h', toks := tk }) :
    wpAny (model P w) A (call (.type "set") [.ref l]) Q E s := by
  have hisz : items.size = ns.length := by
    have q := IntsAre.length hit
    rw [Array.length_toList] at q
    exact q
  obtain ⟨c, tl, hmro⟩ := F.called_set.mro
  have hmade := F.called_set.made
  have hsub := F.called_set.sub
  refine wpAny_call (codeAny_of_tree ?_)
  show wpAny _ _ (callAny (.type "set") _) _ _ _
  refine wpAny_pure ⟨Code.quiet_builtin _ (by decide +kernel), codeAny_builtin F.entry_type_call ?_⟩
  rw [Around.under_plain (weight_type_call_type "set" [.ref l] []) rfl]
  have h1 := F.called_set.notType
  have h2 := F.called_set.canCreate
  have hct := F.typeCall_set_1 (.ref l)
  repeat (any_goals (first | assumption | wp_step))
  refine codeAny_mono (code_set_led1 (.ref l) (E := E) (Q₁ := fun obj s₁ => obj = .ref s.heap.objs.size ∧ s₁ = { s with heap := s.heap.push { cls := .type "set", dict := none, data := .set #[] 0 (.fresh 0 0 (!w.params.followText "set-order")) } }) ⟨rfl, rfl⟩) fun r s₁ hr => ?_
  cases r with
  | error e => exact hr
  | ok fl =>
    cases fl with
    | ret obj =>
      obtain ⟨rfl, rfl⟩ := hr
      have hS : (s.heap.push { cls := .type "set", dict := none, data := .set #[] 0 (.fresh 0 0 (!w.params.followText "set-order")) }).get? s.heap.objs.size = some { cls := .type "set", dict := none, data := .set #[] 0 (.fresh 0 0 (!w.params.followText "set-order")) } := Heap.get?_push_size _ rfl
      have hT : Shared.TypeIs { s with heap := s.heap.push { cls := .type "set", dict := none, data := .set #[] 0 (.fresh 0 0 (!w.params.followText "set-order")) } } (.ref s.heap.objs.size) "set" := ⟨_, hS, rfl⟩
      have hli := F.called_set.init.lookup
      have hbi := F.called_set.init.bind (.ref s.heap.objs.size)
      repeat (any_goals (first | assumption | wp_step))
      refine codeAny_mono (codeAny_call_builtin (R := wants (fun r s₂ => r = .none ∧ ∃ h' tk c, s₂ = { s with heap := h', toks := tk } ∧ SetR w h' s.heap.objs.size (fun j => decide (j ∈ ns)) c ∧ c ≤ ns.length ∧
          (∀ b o, s.heap.get? b = some o → h'.get? b = some o)) E) F.called_set.init.plain F.entry_set_init (check_set_init_1 hT ?_)) fun r₂ s₂ hr₂ => ?_
      · obtain ⟨ol, hol, hcl, nl, hdl⟩ := hl
        obtain ⟨ocls, odict, odata, oslots⟩ := ol
        simp only at hcl hdl
        subst hcl; subst hdl
        have hol' : (s.heap.push { cls := .type "set", dict := none, data := .set #[] 0 (.fresh 0 0 (!w.params.followText "set-order")) }).get? l = some { cls := .type "list", dict := odict, data := .seq items nl, slots := oslots } := Heap.get?_push_of_some _ hol
        have hsls := F.sub_list_set
        have hslf := F.sub_list_frozenset
        have hne : (Value.type "list" == Value.type "dict") = false := by decide
        have hl1 : (s.heap.push { cls := .type "set", dict := none, data := .set #[] 0 (.fresh 0 0 (!w.params.followText "set-order")) }).IsList l items := ⟨_, hol', rfl, nl, rfl⟩
        unfold Builtin.«set.__init__» noKeywords Builtin.Frozenset.updateFrom
        generalize hPI : pyIter = PI
        wp_walk
        subst hPI
        refine wpAny_pyIter_list hl1 ?_
        refine wpAny_bind (wpAny_runValue ?_)
        have hlS : l < s.heap.objs.size := Heap.lt_size hol
        have hh3 : A.in1.in1.in1.handled = none := by simp [hh]
        have hz1 : (s.heap.push { cls := .type "set", dict := none, data := .set #[] 0 (.fresh 0 0 (!w.params.followText "set-order")) }).objs.size = s.heap.objs.size + 1 := Heap.size_push ..
        have hneI : l ≠ (s.heap.push { cls := .type "set", dict := none, data := .set #[] 0 (.fresh 0 0 (!w.params.followText "set-order")) }).objs.size := by
          rw [Heap.size_push]; exact Nat.ne_of_lt (Nat.lt_succ_of_lt hlS)
        have hSf : s.heap.objs.size ∉ [(s.heap.push { cls := .type "set", dict := none, data := .set #[] 0 (.fresh 0 0 (!w.params.followText "set-order")) }).objs.size, l] := by
          rw [Heap.size_push]; simp only [List.mem_cons, List.mem_singleton, List.not_mem_nil, or_false, not_or]
          exact ⟨Nat.ne_of_lt (Nat.lt_succ_self _), Nat.ne_of_gt hlS⟩
        have hval : ∀ (i : Nat) (v : Value), items[i]? = some v → ∃ k t, ns[i]? = some k ∧ v = .int k t := fun i v hv => by
          have hi : i < ns.length := by rw [← hisz]; exact (Array.getElem?_eq_some_iff.mp hv).1
          obtain ⟨t, e⟩ := PyProof.Rows.IntsAre.int_at hit i v (by rw [Array.getElem?_toList]; exact hv)
          refine ⟨ns[i], t, List.getElem?_eq_getElem hi, ?_⟩
          rw [e, List.getD_eq_getElem?_getD, List.getElem?_eq_getElem hi] <;> rfl
        refine set_update_ints ((Walks.list hh3 _ l hneI items).toS) s.heap.objs.size
          hSf ns hisz hb hval (items.size - 0) 0 _ (by omega) (Nat.zero_le _)
          ⟨⟨_, Heap.get?_push_size _ rfl, rfl, rfl⟩, (hl1.push _)⟩ ?hS0 ?hR
        case hS0 =>
          have hget : ((s.heap.push { cls := .type "set", dict := none, data := .set #[] 0 (.fresh 0 0 (!w.params.followText "set-order")) }).push { cls := .type "list_iterator", data := .fields #[.ref l, .int 0 0] }).get? s.heap.objs.size
              = some { cls := .type "set", dict := none, data := .set #[] 0 (.fresh 0 0 (!w.params.followText "set-order")) } := Heap.get?_push_of_some _ hS
          exact ⟨0, Nat.le_refl 0, setR_new_at hget⟩
        case hR =>
          intro s' c' hm hc' hS'
          obtain ⟨h', g2, d', tk', os'⟩ := s'
          have eg : g2 = s.gens := hm.gens
          have ed : d' = s.drawn := hm.drawn
          have eo : os' = s.os := hm.os
          subst eg; subst ed; subst eo
          show wpAny _ _ _ _ _ _
          refine wpAny_pure ?_
          show wpAny _ _ (ret Value.none) _ _ _
          rw [hisz] at hc'
          refine wpAny_pure ⟨rfl, h', tk', c', rfl, hS', hc', fun b o e => ?_⟩
          have hb0 : b < s.heap.objs.size := Heap.lt_size e
          have hb1 : b ≠ s.heap.objs.size := Nat.ne_of_lt hb0
          have hb2 : b ≠ (s.heap.push { cls := .type "set", dict := none, data := .set #[] 0 (.fresh 0 0 (!w.params.followText "set-order")) }).objs.size := by
            rw [Heap.size_push]; exact Nat.ne_of_lt (Nat.lt_succ_of_lt hb0)
          exact hm.heap b o (by simp only [List.mem_cons, List.mem_singleton, List.not_mem_nil, or_false, not_or]; exact ⟨hb1, hb2⟩) (Heap.get?_push_of_some _ (Heap.get?_push_of_some _ e))
      · cases r₂ with
        | error e => exact hr₂
        | ok fl₂ =>
          cases fl₂ with
          | ret r =>
            obtain ⟨rfl, h', tk, c', rfl, hS', hc', hk'⟩ := hr₂
            repeat (any_goals (first | assumption | wp_step))
            exact h _ _ _ hS' hc' hk'
          | _ => exact hr₂.elim
    | _ => exact hr.elim
end
section
variable {X : Cx}
def rSetLst (K : PySem.W.Frag) (w : World) : List V → Hp → VK → Prop := fun xs H Q => ∃ (l : Addr) (ns : List Int), xs = [V.ref l] ∧ SqL K H l (ns.map V.int) ∧ ns.length < 1000 ∧ ∀ p c, H p = none → c ≤ ns.length → Q (.ref p) (upd H p (SetO w p (fun j => decide (j ∈ ns)) c))
theorem cr_setLst (hc : X.calm = true) : CallR X (.type "set") (rSetLst X.K X.w) := by
  intro pins s σ H xs us Q I r h
  obtain ⟨l, ns, rfl, sq, hl, q⟩ := h
  obtain ⟨u, rfl, rx⟩ := vals1 r
  obtain rfl : u = .ref l := rx
  obtain ⟨its, rv, pl, _⟩ := I.list sq
  refine call_set_lstI ns (I.ok.hd hc) pl.isList (by simpa using rv.ints) (by unfold scanBound; omega) fun h' tk c hS hc' kp => ?_
  exact ⟨.ref s.heap.objs.size, _, I.laid (t' := tk) (a := s.heap.objs.size) (o := SetO X.w s.heap.objs.size (fun j => decide (j ∈ ns)) c) kp (Nat.le_refl _) (setO_new hS), rfl, q _ c (I.hok.fresh (Nat.le_refl _)) hc'⟩
end
variable [TabC] [ObjB] {X : Cx} {W : XW}
def dSrtSetL (dc : DC) : DO := fun ρ Q X => dc ρ (fun b ds => b = false ∧ ∃ ns : List Int, ds = ns.map .int ∧ ns.length < 64 ∧ ∀ out : List Int, out.Pairwise (· < ·) → (∀ k, k ∈ out ↔ k ∈ ns) → Q (.lst (out.map .int))) X
@[simp] theorem s_dSrtSetL (dc : DC) (ρ : Sto) (Q : OD → Prop) (X : XD) : dSrtSetL dc ρ Q X ↔ dc ρ (fun b ds => b = false ∧ ∃ ns : List Int, ds = ns.map .int ∧ ns.length < 64 ∧ ∀ out : List Int, out.Pairwise (· < ·) → (∀ k, k ∈ out ↔ k ∈ ns) → Q (.lst (out.map .int))) X := Iff.rfl
theorem qo_sortedSetL {e : Expr} {p p2 pos pos2 : Pos} {dc : DC} (hc : X.calm = true) (hm : X.mg "sorted" = none) (hm2 : X.mg "set" = none) (ha : QC X W e dc) (hg : Gl X "sorted" := by rfl) (hg2 : Gl X "set" := by rfl) (he : starEach [e] X.env = (false, eval e X.env) :: starEach [] X.env := by rfl)
    (he2 : starEach [.Call (.Name "set" p2) [e] [] pos2] X.env = (false, eval (.Call (.Name "set" p2) [e] [] pos2) X.env) :: starEach [] X.env := by rfl) : QO X W (.Call (.Name "sorted" p) [.Call (.Name "set" p2) [e] [] pos2] [] pos) (dSrtSetL dc) :=
  PE.sub (pe_callB (cr_sortedSet hc) hg hm (by decide +kernel) (pa_cons (pe_callTy (cr_setLst hc) hg2 hm2 (by decide +kernel) (pa_cons ha pa_nil he) (he := he)) pa_nil he2) (he := he2)) fun σ H Q h => by
  obtain ⟨G0, H0, G, ρ, Qd, Xd, k, h, fn, xo⟩ := h
  refine ⟨G0, H0, G, ρ, _, Xd, k, h, fun G1 H1 a xs b ds k1 g1 sq rx hb => ?_, xo⟩
  obtain ⟨rfl, ns, rfl, hl, q⟩ := hb
  have e := rpa_ofInts rx
  subst e
  refine ⟨a, ns, rfl, SqL.of sq, by omega, fun D c hD hc' => ?_⟩
  have kD : Ok X.K G0 H0 G1 (upd H1 D (SetO X.w D (fun j => decide (j ∈ ns)) c)) σ ρ := k1.fresh hD
  have gD : Gr G1 H1 G1 (upd H1 D (SetO X.w D (fun j => decide (j ∈ ns)) c)) := Gr.fresh hD
  refine ⟨D, _, _, rfl, upd_same, by omega, fun out p hp hm hl2 hf => ?_⟩
  exact fin_own (ho := .lst (out.map V.int)) (o := .lst (out.map .int)) kD (fun G3 H3 p ho o k3 g3 n1 n2 n3 n4 q => fn G3 H3 p ho o k3 ((g1.trans gD).trans g3) ((g1.trans gD).hh.free n1) n2 n3 n4 q) (show RpAll _ G1 _ _ from rpa_ints out) (q out hp fun k => by rw [hm k]; exact decide_eq_true_iff) p hf
end WH
namespace WH
open PySem PySem.Spec L2
def Kp (d : DS) (n : List Str) (C : Ct) : Prop := ∀ ds R Xd, C ds R Xd → d { nx := fun _ => R (.sh .none), rt := R, ex := fun x _ => Xd x } (st0 n ds)
def n__law_numbers : List Str := ["_law_script", "_law_many", "_law_drawn", "_law_seed", "_law_cell", "_law_rest", "_law_k"]
def d__law_numbers : DS := (dSeq (dAsgO 2 (dLst dNil))
  (dSeq (dAsg 3 (dC (.int 61)))
  (dSeq (dFor (dIt (dScr 0)) (gN 4)
  (dSeq (dAsg 3 (d2 modD (d2 addD (d2 addD (d2 mulD (dVar 3) (dC (.int 40692))) (d2 modD (dVar 4) (dC (.int 999983)))) (dC (.int 29))) (dC (.int 2147483399))))
  (dSeq (dAsg 5 (d2 subD (dVar 4) (d2 powD (dC (.int 10)) (dC (.int 18)))))
  (dSeq (dIfS (dTst (d2 ltD (dVar 5) (dC (.int 0))))
  (dApp 2 (d2 modD (dVar 4) (dC (.int 9973))))
  dNext)
  (dFor (dRng1 (dC (.int 60))) (gN 6)
  (dIfS (dTst (d2 gtD (dVar 5) (dC (.int 0))))
  (dSeq (dApp 2 (d2 modD (dVar 5) (dC (.int 1019))))
  (dAsg 5 (d2 fdivD (dVar 5) (dC (.int 1019)))))
  dNext))))))
  (dSeq (dWhile (dTst (d2 ltD (dCBC lenC (dVarC 2)) (dVar 1)))
  (dSeq (dAsg 3 (d2 modD (d2 addD (d2 addD (d2 addD (d2 mulD (dVar 3) (dVar 3)) (d2 mulD (dC (.int 40014)) (dVar 3))) (d2 mulD (dC (.int 23)) (dCBC lenC (dVarC 2)))) (dC (.int 7))) (dC (.int 2147483563))))
  (dApp 2 (d2 modD (d2 fdivD (dVar 3) (dC (.int 1021))) (dC (.int 9973))))))
  (dRet (dSl (dVarC 2) dNo (dSome (dVar 1))))))))
def c__law_numbers : Ct := fun ds R _ => ∃ (ns : List Int) (many : Nat), ds = [scrD ns, .int many] ∧ ns.length ≤ 63 ∧ many ≤ 20000 ∧ ∀ out : List Int, out.length = many → (∀ z ∈ out, 0 ≤ z ∧ z < 9973) → R (.sh (.list (out.map .int)))
theorem l__law_numbers : ∀ ds R Xd, c__law_numbers ds R Xd → ds.length = 2 := by
  rintro ds R Xd ⟨d, lo, rfl, h⟩
  rfl
theorem Sm.snoc {ns : List Int} {z : Int} (h : Sm ns) (h0 : 0 ≤ z) (h1 : z < 9973) : Sm (ns ++ [z]) := by
  intro y hy
  rcases List.mem_append.mp hy with hy | hy
  · exact h y hy
  · rw [List.mem_singleton.mp hy]
    exact ⟨h0, h1⟩
theorem Sm.take {ns : List Int} (h : Sm ns) (n : Nat) : Sm (ns.take n) := fun z hz => h z (List.mem_of_mem_take hz)
theorem p__law_numbers : Kp d__law_numbers n__law_numbers c__law_numbers := by
  rintro ds R Xd ⟨ns, many, rfl, h1, h2, h⟩
  simp [d__law_numbers, st0, n__law_numbers]
  refine ⟨h1, ?_⟩
  refine forW_inv (fun n ρ' => ∃ (out : List Int) (seed : Int) (s4 s5 s6 : Slot), ρ' = [.sh (scrD ns), .sh (.int many), .ow (.lst (out.map .int)), .sh (.int seed), s4, s5, s6] ∧ Sm out ∧ out.length ≤ 61 * n ∧ 0 ≤ seed ∧ seed < 2147483648) ⟨[], 61, .no, .no, .no, rfl, fun _ h => absurd h (by simp), by simp, by omega, by omega⟩ ?_ ?_
  · rintro ρ' ⟨out, seed, s4, s5, s6, rfl, hs, hl, hs0, hs1⟩
    dsimp only [dSeq]
    refine while_inv (fun m ρ' => ∃ (out : List Int) (seed : Int) (s4 s5 s6 : Slot), ρ' = [.sh (scrD ns), .sh (.int many), .ow (.lst (out.map .int)), .sh (.int seed), s4, s5, s6] ∧ Sm out ∧ out.length ≤ 25000 ∧ 0 ≤ seed ∧ seed < 2147483648 ∧ m = many - out.length) _ ⟨out, seed, s4, s5, s6, rfl, hs, ?_, hs0, hs1, rfl⟩ ?_
    · simp at hl; omega
    rintro m ρ' K ⟨out, seed, s4, s5, s6, rfl, hs, hl, hs0, hs1, rfl⟩ hK
    simp
    split
    · rename_i hlt
      refine ⟨by omega, by omega, ?_⟩
      refine hK (many - (out.length + 1)) _ (by omega) ⟨out ++ [(seed * seed + 40014 * seed + 23 * ↑out.length + 7) % 2147483563 / 1021 % 9973], (seed * seed + 40014 * seed + 23 * ↑out.length + 7) % 2147483563, s4, s5, s6, by simp, hs.snoc (by omega) (by omega), by simp; omega, by omega, by omega, by simp⟩
    · rename_i hge
      rw [cutD_ints]
      refine h _ ?_ ?_
      · rw [HT.sIx_nat, HT.sIx_none]
        simp
        omega
      · intro z hz
        exact hs z (List.mem_of_mem_drop (List.mem_of_mem_take hz))
  · rintro n d ρ' K hd ⟨out, seed, s4, s5, s6, rfl, hs, hl, hs0, hs1⟩ hK
    obtain ⟨cell, _, rfl⟩ := ints_get hd
    have hn : n < 63 := by
      have := (List.getElem?_eq_some_iff.mp hd).1
      simp at this
      omega
    -- the inner loop, behind the first append
    have inner : ∀ (out2 : List Int) (z : Int) (D : DEnds), Sm out2 → out2.length ≤ 61 * n + 1 → (∀ out3 : List Int, ∀ s4 s5 s6 : Slot, Sm out3 → out3.length ≤ 61 * n + 61 → D.nx [.sh (scrD ns), .sh (.int many), .ow (.lst (out3.map .int)), .sh (.int ((seed * 40692 + cell % 999983 + 29) % 2147483399)), s4, s5, s6]) → ∀ (s4 s6 : Slot),
        forW (gN 6) (dIfS (dTst (d2 gtD (dVar 5) (dC (PyData.int 0)))) (dSeq (dApp 2 (d2 modD (dVar 5) (dC (PyData.int 1019)))) (dAsg 5 (d2 fdivD (dVar 5) (dC (PyData.int 1019))))) dNext) D (rngD 0 60) [.sh (scrD ns), .sh (.int many), .ow (.lst (out2.map .int)), .sh (.int ((seed * 40692 + cell % 999983 + 29) % 2147483399)), s4, .sh (.int z), s6] := by
      intro out2 z D hs2 hl2 hD s4 s6
      refine forW_inv (fun k ρ' => ∃ (out : List Int) (z : Int) (s6 : Slot), ρ' = [.sh (scrD ns), .sh (.int many), .ow (.lst (out.map .int)), .sh (.int ((seed * 40692 + cell % 999983 + 29) % 2147483399)), s4, .sh (.int z), s6] ∧ Sm out ∧ out.length ≤ 61 * n + 1 + k) ⟨out2, z, s6, rfl, hs2, by omega⟩ ?_ ?_
      · rintro ρ' ⟨out, z, s6, rfl, hs, hl⟩
        exact hD out _ _ _ hs (by simpa using hl)
      · rintro k d ρ' K hd ⟨out, z, s6, rfl, hs, hl⟩ hK
        obtain ⟨hk, rfl⟩ := rngD_get hd
        simp
        split
        · refine ⟨by omega, hK _ ⟨out ++ [z % 1019], z / 1019, _, by rw [List.map_append]; rfl, hs.snoc (by omega) (by omega), by simp; omega⟩⟩
        · exact hK _ ⟨out, z, _, rfl, hs, by omega⟩
    simp
    split
    · refine ⟨by omega, ?_⟩
      have e : List.map PyData.int out ++ [PyData.int (cell % 9973)] = List.map PyData.int (out ++ [cell % 9973]) := by simp
      rw [e]
      exact inner _ _ _ (hs.snoc (by omega) (by omega)) (by simp; omega) (fun out3 s4 s5 s6 h3 l3 => hK _ ⟨out3, _, s4, s5, s6, rfl, h3, by omega, by omega, by omega⟩) _ _
    · exact inner _ _ _ hs (by omega) (fun out3 s4 s5 s6 h3 l3 => hK _ ⟨out3, _, s4, s5, s6, rfl, h3, by omega, by omega, by omega⟩) _ _
def n_is_whole : List Str := ["thing", "low", "high"]
def d_is_whole : DS := (dRet (dAndV (dIsi "int" (dVar 0)) (dAndV (dNotV (dIsi "bool" (dVar 0))) (dChain leD leD (dVar 1) (dVar 0) (dVar 2)))))
def isWhole (d : PyData) (lo hi : Int) : Bool := match d with
  | .int i => decide (lo ≤ i) && decide (i ≤ hi)
  | _ => false
@[simp] theorem isWhole_int (i lo hi : Int) : isWhole (.int i) lo hi = (decide (lo ≤ i) && decide (i ≤ hi)) := rfl
def c_is_whole : Ct := fun ds R _ => ∃ d lo hi, ds = [d, .int lo, .int hi] ∧ isD1 d = true ∧ R (.sh (.bool (isWhole d lo hi)))
@[simp] theorem s_c_is_whole (d : PyData) (lo hi : Int) (R : Slot → Prop) (X : XD) : c_is_whole [d, .int lo, .int hi] R X ↔ (isD1 d = true ∧ R (.sh (.bool (isWhole d lo hi)))) := by
  constructor
  · rintro ⟨d', l', h', e, q⟩
    cases e
    exact q
  · exact fun q => ⟨d, lo, hi, rfl, q⟩
theorem l_is_whole : ∀ ds R Xd, c_is_whole ds R Xd → ds.length = 3 := by
  rintro ds R Xd ⟨d, lo, hi, rfl, h⟩
  rfl
theorem p_is_whole : Kp d_is_whole n_is_whole c_is_whole := by
  rintro ds R Xd ⟨d, lo, hi, rfl, h1, h⟩
  cases d <;> simp_all [d_is_whole, st0, n_is_whole, isT, tyN, isWhole]
  split <;> simp_all
def n_is_operation : List Str := ["rows", "many", "answer", "later"]
def d_is_operation : DS := (dSeq (dIfS (dOr (dNot (dTst (dChain leD leD (dC (.int 1)) (dVar 1) (dC (.int 5))))) (dTst (d2 neD (dCB lenD (dCons (dVar 0) dNil)) (dVar 1))))
  (dRet (dC (.bool false)))
  dNext)
  (dRet (dCBC allC (dCofO (dLc [2, 3] (dIt (dVar 0)) (gT 2 (gsCons (gN 2) (gsCons (gN 3) gsNil))) dYes (dAndV (dCall c_is_whole (dCons (dVar 2) (dCons (dC (.int 0)) (dCons (dC (.int 9)) dNil)))) (dCall c_is_whole (dCons (dVar 3) (dCons (dC (.int 0)) (dCons (d2 subD (dVar 1) (dC (.int 1))) dNil))))))))))
def rwD (r : Row) : PyData := .tuple [r.1, r.2]
def opD (rs : List Row) : PyData := .tuple (rs.map rwD)
def tbD (t : List (List Row)) : PyData := .tuple (t.map opD)
def RowOk (r : Row) : Prop := isD1 r.1 = true ∧ isD1 r.2 = true
def isOp (rs : List Row) (many : Int) : Bool := decide (1 ≤ many) && decide (many ≤ 5) && decide ((rs.length : Int) = many) && rs.all fun r => isWhole r.1 0 9 && isWhole r.2 0 (many - 1)
def c_is_operation : Ct := fun ds R _ => ∃ (rs : List Row) (many : Int), ds = [opD rs, .int many] ∧ rs.length ≤ 50000 ∧ (∀ r ∈ rs, RowOk r) ∧ R (.sh (.bool (isOp rs many)))
theorem l_is_operation : ∀ ds R Xd, c_is_operation ds R Xd → ds.length = 2 := by
  rintro ds R Xd ⟨d, lo, rfl, h⟩
  rfl
theorem p_is_operation : Kp d_is_operation n_is_operation c_is_operation := by
  rintro ds R Xd ⟨rs, many, rfl, hz, hr, h⟩
  simp [d_is_operation, st0, n_is_operation, opD]
  have hb : ∀ P : Prop, P → P := fun _ h => h
  by_cases h1 : 1 ≤ many
  · by_cases h2 : many ≤ 5
    · by_cases h3 : (rs.length : Int) = many
      · rw [if_pos h1, if_pos h2, if_pos h3]
        refine lc_mapM (fun r : Row => .bool (isWhole r.1 0 9 && isWhole r.2 0 (many - 1))) hz (fun r hr' K hK => ?_) ?_
        · have ho := hr r hr'
          simp [rwD, ho.1, ho.2]
          cases hw : isWhole r.1 0 9
          · simpa [hw] using hK
          · simpa [hw] using hK
        · refine ⟨rs.map fun r => isWhole r.1 0 9 && isWhole r.2 0 (many - 1), rfl, by simp, ?_⟩
          simp [isOp, h1, h2, h3] at h
          simpa [List.all_map, Function.comp_def] using h
      · rw [if_pos h1, if_pos h2, if_neg h3]
        simpa [isOp, h1, h2, h3] using h
    · rw [if_pos h1, if_neg h2]
      simpa [isOp, h1, h2] using h
  · rw [if_neg h1]
    simpa [isOp, h1] using h
end WH
namespace WH
open PySem PySem.Spec L2
def n_look_table : List Str := ["table", "many", "at", "rows"]
def d_look_table : DS := (dSeq (dIfS (dTst (d2 eqD (dCB lenD (dCons (dVar 0) dNil)) (dC (.int 0))))
  (dRaise "BadTable" (xfD "BadTable" ["at"]) 1 (dCons (dC (.int 0)) dNil))
  dNext)
  (dSeq (dAsg 1 (dCB lenD (dCons (dIx (dVarC 0) (dC (.int 0))) dNil)))
  (dFor (dEnum (dVar 0)) (gT 2 (gsCons (gN 2) (gsCons (gN 3) gsNil)))
  (dIfS (dOr (dTst (d2 geD (dVar 2) (dC (.int 4)))) (dNot (dTst (dCall c_is_operation (dCons (dVar 3) (dCons (dVar 1) dNil))))))
  (dRaise "BadTable" (xfD "BadTable" ["at"]) 1 (dCons (dVar 2) dNil))
  dNext))))
def faultFrom (many : Int) : List (List Row) → Nat → Option Nat
  | [], _ => none
  | rs :: t, i => if 4 ≤ i ∨ isOp rs many = false then some i else faultFrom many t (i + 1)
def fault : List (List Row) → Option Nat
  | [] => some 0
  | rs :: t => faultFrom rs.length (rs :: t) 0
def TbOk (t : List (List Row)) : Prop := t.length ≤ 1000 ∧ ∀ rs ∈ t, rs.length ≤ 1000 ∧ ∀ r ∈ rs, RowOk r
def xBadTable (n : Nat) : Exn := ("BadTable", xfD "BadTable" ["at"] [.int (n : Int)])
def c_look_table : Ct := fun ds R Xd => ∃ t, ds = [tbD t] ∧ TbOk t ∧ (fault t = none → R (.sh .none)) ∧ ∀ n, fault t = some n → Xd (xBadTable n)
theorem l_look_table : ∀ ds R Xd, c_look_table ds R Xd → ds.length = 1 := by
  rintro ds R Xd ⟨d, rfl, h⟩
  rfl
@[simp] theorem s_c_is_operation (rs : List Row) (many : Int) (R : Slot → Prop) (X : XD) : c_is_operation [opD rs, .int many] R X ↔ (∃ rs', opD rs' = opD rs ∧ rs'.length ≤ 50000 ∧ (∀ r ∈ rs', RowOk r) ∧ R (.sh (.bool (isOp rs' many)))) := by
  constructor
  · rintro ⟨rs', m', e, q⟩
    simp only [List.cons.injEq, PyData.int.injEq, and_true] at e
    obtain ⟨e1, rfl⟩ := e
    exact ⟨rs', e1.symm, q⟩
  · rintro ⟨rs', e, q⟩
    exact ⟨rs', many, by rw [e], q⟩
theorem p_look_table : Kp d_look_table n_look_table c_look_table := by
  rintro ds R Xd ⟨t, rfl, ⟨hz, hr⟩, h0, h1⟩
  cases t with
  | nil =>
    have := h1 0 rfl
    simp [d_look_table, st0, n_look_table, tbD]
    exact this
  | cons rs t =>
    simp [d_look_table, st0, n_look_table, tbD]
    have e0 : opD rs = .tuple (rs.map rwD) := rfl
    rw [show lenD [opD rs] = lenD [.tuple (rs.map rwD)] from rfl]
    simp
    have hl : (enumD (opD rs :: t.map opD)) = enumD ((rs :: t).map opD) := rfl
    rw [hl]
    refine forW_inv (fun n ρ' => ∃ s2 s3 : Slot, ρ' = [.sh (.tuple ((rs :: t).map opD)), .sh (.int rs.length), s2, s3] ∧ fault (rs :: t) = faultFrom rs.length ((rs :: t).drop n) n) ⟨.no, .no, rfl, rfl⟩ ?_ ?_
    · rintro ρ' ⟨s2, s3, rfl, hf⟩
      refine h0 ?_
      rw [hf, enumD_len, List.length_map, List.drop_length]
      rfl
    · rintro n d ρ' K hd ⟨s2, s3, rfl, hf⟩ hK
      obtain ⟨e, he, rfl⟩ := enumD_get hd
      rw [List.getElem?_map] at he
      cases q : (rs :: t)[n]? with
      | none => rw [q] at he; cases he
      | some op =>
        rw [q] at he
        cases he
        have hlt : n < (rs :: t).length := (List.getElem?_eq_some_iff.mp q).1
        have hop : (rs :: t)[n] = op := (List.getElem?_eq_some_iff.mp q).2
        have hm : op ∈ rs :: t := List.mem_of_getElem? q
        rw [List.drop_eq_getElem_cons hlt, hop] at hf
        simp
        by_cases h4 : 4 ≤ (n : Int)
        · rw [if_pos h4]
          refine h1 n ?_
          rw [hf]
          unfold faultFrom
          rw [if_pos (.inl (by omega))]
        · rw [if_neg h4]
          refine ⟨op, rfl, by have := (hr op hm).1; omega, fun a b hab => (hr op hm).2 (a, b) hab, ?_⟩
          cases hb : isOp op rs.length with
          | false =>
            simp
            refine h1 n ?_
            rw [hf]
            unfold faultFrom
            rw [if_pos (.inr hb)]
          | true =>
            simp
            refine hK _ ⟨_, _, rfl, ?_⟩
            rw [hf]
            conv => lhs; unfold faultFrom
            rw [if_neg (by rw [hb]; simp; omega)]
def rowI (r : Int × Int) : Row := (.int r.1, .int r.2)
def embT (t : Tab) : List (List Row) := t.map fun op => op.map rowI
def tabD (t : Tab) : PyData := tbD (embT t)
theorem isOp_good {n : Nat} {op : List (Int × Int)} (h1 : 1 ≤ n) (h5 : n ≤ 5) (h : GoodOp n op) : isOp (op.map rowI) n = true := by
  obtain ⟨hl, hr⟩ := h
  unfold isOp
  simp only [Bool.and_eq_true, decide_eq_true_eq, List.all_eq_true, List.length_map]
  refine ⟨⟨⟨by omega, by omega⟩, by omega⟩, fun r hr' => ?_⟩
  obtain ⟨q, hq, rfl⟩ := List.mem_map.mp hr'
  have := hr q hq
  simp [rowI, isWhole]
  omega
theorem faultFrom_good {n : Nat} (h1 : 1 ≤ n) (h5 : n ≤ 5) : ∀ (t : Tab) (i : Nat), i + t.length ≤ 4 → (∀ op ∈ t, GoodOp n op) → faultFrom n (embT t) i = none
  | [], _, _, _ => rfl
  | op :: t, i, hi, h => by
    simp only [List.length_cons] at hi
    show (if 4 ≤ i ∨ isOp (op.map rowI) n = false then some i else faultFrom n (embT t) (i + 1)) = none
    rw [if_neg (by rw [isOp_good h1 h5 (h op List.mem_cons_self)]; simp; omega)]
    exact faultFrom_good h1 h5 t (i + 1) (by omega) fun o ho => h o (List.mem_cons_of_mem _ ho)
theorem fault_good {n : Nat} {t : Tab} (g : GoodN n t) : fault (embT t) = none := by
  cases t with
  | nil => have := g.o1; simp at this
  | cons op t =>
    have hop := g.op op List.mem_cons_self
    show faultFrom ((op.map rowI).length : Nat) (embT (op :: t)) 0 = none
    have := faultFrom_good g.n1 g.n5 (op :: t) 0 (by have := g.o4; simpa using this) g.op
    rw [List.length_map, hop.1]
    exact this
theorem rowI_ok (r : Int × Int) : RowOk (rowI r) := ⟨rfl, rfl⟩
theorem tbOk_good {n : Nat} {t : Tab} (g : GoodN n t) : TbOk (embT t) := by
  refine ⟨by have := g.o4; simp [embT]; omega, fun rs hrs => ?_⟩
  obtain ⟨op, hop, rfl⟩ := List.mem_map.mp hrs
  have := (g.op op hop).1
  have := g.n5
  refine ⟨by simp; omega, fun r hr => ?_⟩
  obtain ⟨q, _, rfl⟩ := List.mem_map.mp hr
  exact rowI_ok q
def goodB (n : Nat) (t : Tab) : Bool := decide (1 ≤ n) && decide (n ≤ 5) && decide (1 ≤ t.length) && decide (t.length ≤ 4) && t.all fun op => decide (op.length = n) && op.all fun r => decide (0 ≤ r.1) && decide (r.1 ≤ 9) && decide (0 ≤ r.2) && decide (r.2 < n)
theorem good_of_B {n : Nat} {t : Tab} (h : goodB n t = true) : GoodN n t := by
  simp only [goodB, Bool.and_eq_true, decide_eq_true_eq, List.all_eq_true] at h
  obtain ⟨⟨⟨⟨h1, h2⟩, h3⟩, h4⟩, h5⟩ := h
  exact ⟨h1, h2, h3, h4, fun op ho => ⟨(h5 op ho).1, fun r hr => by have := (h5 op ho).2 r hr; omega⟩⟩
def n__law_known : List Str := ["_law_d", "_law_some"]
def d__law_known : DS := (dSeq (dAsg 1 (dOfO (dLst (dCons (dTup (dCons (dTup (dCons (dTup (dCons (dC (.int 0)) (dCons (dC (.int 1)) dNil))) (dCons (dTup (dCons (dC (.int 1)) (dCons (dC (.int 1)) dNil))) dNil))) dNil)) (dCons (dTup (dCons (dTup (dCons (dTup (dCons (dC (.int 0)) (dCons (dC (.int 1)) dNil))) (dCons (dTup (dCons (dC (.int 1)) (dCons (dC (.int 1)) dNil))) (dCons (dTup (dCons (dC (.int 2)) (dCons (dC (.int 2)) dNil))) dNil)))) (dCons (dTup (dCons (dTup (dCons (dC (.int 0)) (dCons (dC (.int 2)) dNil))) (dCons (dTup (dCons (dC (.int 1)) (dCons (dC (.int 1)) dNil))) (dCons (dTup (dCons (dC (.int 2)) (dCons (dC (.int 2)) dNil))) dNil)))) dNil))) dNil)))))
  (dSeq (dAsg 1 (d2 addD (dVar 1) (dOfO (dLst (dCons (dTup (dCons (dTup (dCons (dTup (dCons (dC (.int 0)) (dCons (dC (.int 1)) dNil))) (dCons (dTup (dCons (dC (.int 0)) (dCons (dC (.int 1)) dNil))) (dCons (dTup (dCons (dC (.int 0)) (dCons (dC (.int 1)) dNil))) dNil)))) (dCons (dTup (dCons (dTup (dCons (dC (.int 0)) (dCons (dC (.int 2)) dNil))) (dCons (dTup (dCons (dC (.int 0)) (dCons (dC (.int 2)) dNil))) (dCons (dTup (dCons (dC (.int 0)) (dCons (dC (.int 2)) dNil))) dNil)))) dNil))) dNil)))))
  (dSeq (dAsg 1 (d2 addD (dVar 1) (dOfO (dLst (dCons (dTup (dCons (dTup (dCons (dTup (dCons (dC (.int 0)) (dCons (dC (.int 1)) dNil))) (dCons (dTup (dCons (dC (.int 1)) (dCons (dC (.int 1)) dNil))) (dCons (dTup (dCons (dC (.int 2)) (dCons (dC (.int 1)) dNil))) dNil)))) (dCons (dTup (dCons (dTup (dCons (dC (.int 0)) (dCons (dC (.int 2)) dNil))) (dCons (dTup (dCons (dC (.int 1)) (dCons (dC (.int 2)) dNil))) (dCons (dTup (dCons (dC (.int 2)) (dCons (dC (.int 2)) dNil))) dNil)))) dNil))) dNil)))))
  (dSeq (dAsg 1 (d2 addD (dVar 1) (dOfO (dLst (dCons (dTup (dCons (dTup (dCons (dTup (dCons (dC (.int 0)) (dCons (dC (.int 1)) dNil))) (dCons (dTup (dCons (dC (.int 1)) (dCons (dC (.int 2)) dNil))) (dCons (dTup (dCons (dC (.int 2)) (dCons (dC (.int 0)) dNil))) dNil)))) dNil)) (dCons (dTup (dCons (dTup (dCons (dTup (dCons (dC (.int 0)) (dCons (dC (.int 1)) dNil))) (dCons (dTup (dCons (dC (.int 0)) (dCons (dC (.int 0)) dNil))) dNil))) dNil)) dNil))))))
  (dSeq (dAsg 1 (d2 addD (dVar 1) (dOfO (dLst (dCons (dTup (dCons (dTup (dCons (dTup (dCons (dC (.int 0)) (dCons (dC (.int 1)) dNil))) (dCons (dTup (dCons (dC (.int 0)) (dCons (dC (.int 1)) dNil))) (dCons (dTup (dCons (dC (.int 0)) (dCons (dC (.int 2)) dNil))) dNil)))) (dCons (dTup (dCons (dTup (dCons (dC (.int 0)) (dCons (dC (.int 2)) dNil))) (dCons (dTup (dCons (dC (.int 0)) (dCons (dC (.int 1)) dNil))) (dCons (dTup (dCons (dC (.int 0)) (dCons (dC (.int 2)) dNil))) dNil)))) dNil))) dNil)))))
  (dSeq (dAsg 1 (d2 addD (dVar 1) (dOfO (dLst (dCons (dTup (dCons (dTup (dCons (dTup (dCons (dC (.int 0)) (dCons (dC (.int 1)) dNil))) (dCons (dTup (dCons (dC (.int 0)) (dCons (dC (.int 2)) dNil))) (dCons (dTup (dCons (dC (.int 0)) (dCons (dC (.int 3)) dNil))) (dCons (dTup (dCons (dC (.int 0)) (dCons (dC (.int 3)) dNil))) dNil))))) (dCons (dTup (dCons (dTup (dCons (dC (.int 1)) (dCons (dC (.int 0)) dNil))) (dCons (dTup (dCons (dC (.int 1)) (dCons (dC (.int 0)) dNil))) (dCons (dTup (dCons (dC (.int 1)) (dCons (dC (.int 0)) dNil))) (dCons (dTup (dCons (dC (.int 1)) (dCons (dC (.int 0)) dNil))) dNil))))) dNil))) dNil)))))
  (dRet (dIx (dVarC 1) (d2 modD (dIx (dVarC 0) (dC (.int 0))) (dC (.int 8)))))))))))
def knownT : List Tab := [[[(0, 1), (1, 1)]], [[(0, 1), (1, 1), (2, 2)], [(0, 2), (1, 1), (2, 2)]], [[(0, 1), (0, 1), (0, 1)], [(0, 2), (0, 2), (0, 2)]],
  [[(0, 1), (1, 1), (2, 1)], [(0, 2), (1, 2), (2, 2)]], [[(0, 1), (1, 2), (2, 0)]], [[(0, 1), (0, 0)]], [[(0, 1), (0, 1), (0, 2)], [(0, 2), (0, 1), (0, 2)]],
  [[(0, 1), (0, 2), (0, 3), (0, 3)], [(1, 0), (1, 0), (1, 0), (1, 0)]]]
theorem known_good : ∀ t ∈ knownT, ∃ n, GoodN n t := by
  intro t ht
  have h : knownT.all (fun t => (List.range 6).any fun n => goodB n t) = true := by decide +kernel
  have := (List.all_eq_true.mp h) t ht
  obtain ⟨n, _, hn⟩ := List.any_eq_true.mp this
  exact ⟨n, good_of_B hn⟩
def c__law_known : Ct := fun ds R _ => ∃ (ns : List Int) (a : Int), ds = [.list (ns.map .int)] ∧ ns[0]? = some a ∧ 0 ≤ a ∧ ∀ t n, t ∈ knownT → GoodN n t → R (.sh (tabD t))
theorem l__law_known : ∀ ds R Xd, c__law_known ds R Xd → ds.length = 1 := by
  rintro ds R Xd ⟨d, _, rfl, h⟩
  rfl
theorem p__law_known : Kp d__law_known n__law_known c__law_known := by
  rintro ds R Xd ⟨ns, a, rfl, ha, h0, h⟩
  simp [d__law_known, st0, n__law_known, ha]
  have e : ∃ i : Nat, a % 8 = (i : Int) ∧ i < 8 := ⟨(a % 8).toNat, by omega, by omega⟩
  obtain ⟨i, hi, hlt⟩ := e
  rw [hi, atI_nat]
  have key : ∀ l : List PyData, l = knownT.map tabD → ∃ d, l[i]? = some d ∧ R (Slot.sh d) := by
    rintro l rfl
    have hk : i < knownT.length := hlt
    refine ⟨tabD knownT[i], by simp [hk], ?_⟩
    obtain ⟨n, hn⟩ := known_good _ (List.getElem_mem hk)
    exact h _ n (List.getElem_mem hk) hn
  exact key _ rfl
def n__law_rows : List Str := ["_law_d", "_law_many", "_law_answers", "_law_k"]
def d__law_rows : DS := (dSeq (dAsg 2 (dIx (dCofO (dLst (dCons (dC (.int 1)) (dCons (dC (.int 2)) (dCons (dC (.int 10)) dNil))))) (d2 modD (dIx (dVarC 0) (dC (.int 0))) (dC (.int 3)))))
  (dRet (dCBC tupC (dCofO (dLc [3] (dRng1 (dVar 1)) (gN 3) dYes (dTup (dCons (d2 modD (dIx (dVarC 0) (d2 addD (dC (.int 1)) (dVar 3))) (dVar 2)) (dCons (d2 modD (d2 fdivD (dIx (dVarC 0) (d2 addD (dC (.int 1)) (dVar 3))) (dC (.int 10))) (dVar 1)) dNil))))))))
def c__law_rows : Ct := fun ds R _ => ∃ (ns : List Int) (many : Nat), ds = [.list (ns.map .int), .int many] ∧ Sm ns ∧ many < ns.length ∧ 1 ≤ many ∧ many ≤ 5 ∧ ∀ op, GoodOp many op → R (.sh (opD (op.map rowI)))
theorem l__law_rows : ∀ ds R Xd, c__law_rows ds R Xd → ds.length = 2 := by
  rintro ds R Xd ⟨d, _, rfl, h⟩
  rfl
theorem ints_at {ns : List Int} {i : Nat} (h : i < ns.length) : (ns.map PyData.int)[i]? = some (.int ns[i]) := by simp [h]
theorem p__law_rows : Kp d__law_rows n__law_rows c__law_rows := by
  rintro ds R Xd ⟨ns, many, rfl, hs, hl, h1, h5, h⟩
  have h0 : ns[0]? = some ns[0] := by simp
  simp [d__law_rows, st0, n__law_rows, h0]
  have e : ∃ i : Nat, ns[0] % 3 = (i : Int) ∧ i < 3 := ⟨(ns[0] % 3).toNat, by omega, by omega⟩
  obtain ⟨i, hi, hlt⟩ := e
  rw [hi, atI_nat]
  obtain ⟨an, ha, han⟩ : ∃ an : Int, ([PyData.int 1, PyData.int 2, PyData.int 10] : List PyData)[i]? = some (.int an) ∧ 1 ≤ an ∧ an ≤ 10 := by
    match i, hlt with
    | 0, _ => exact ⟨1, rfl, by omega⟩
    | 1, _ => exact ⟨2, rfl, by omega⟩
    | 2, _ => exact ⟨10, rfl, by omega⟩
  rw [ha]
  simp
  refine ⟨by omega, ?_⟩
  refine lc_rel (fun k d x => ∃ a b : Int, x = .tuple [.int a, .int b] ∧ (0 ≤ a ∧ a ≤ 9) ∧ 0 ≤ b ∧ b < many) (by simp; omega) (fun k d hd K hK => ?_) fun out ho hp => ?_
  · obtain ⟨hk, rfl⟩ := rngD_get hd
    have hk1 : 1 + k < ns.length := by omega
    have e1 : (1 : Int) + (0 + (k : Int)) = ((1 + k : Nat) : Int) := by omega
    have e2 : atI (ns.map PyData.int) (1 + (k : Int)) = some (.int ns[1 + k]) := by
      have : (1 : Int) + (k : Int) = ((1 + k : Nat) : Int) := by omega
      rw [this, atI_nat]
      exact ints_at hk1
    simp [e2]
    refine ⟨by omega, by omega, hK _ ⟨_, _, rfl, ?_⟩⟩
    have m1 := Int.emod_nonneg ns[1 + k] (show an ≠ 0 by omega)
    have m2 := Int.emod_lt_of_pos ns[1 + k] (show 0 < an by omega)
    have m3 := Int.emod_nonneg (ns[1 + k] / 10) (show (many : Int) ≠ 0 by omega)
    have m4 := Int.emod_lt_of_pos (ns[1 + k] / 10) (show 0 < (many : Int) by omega)
    omega
  · simp at ho
    -- the rows, as numbers
    have key : ∀ l : List PyData, (∀ x ∈ l, ∃ a b : Int, x = .tuple [.int a, .int b] ∧ (0 ≤ a ∧ a ≤ 9) ∧ 0 ≤ b ∧ b < many) → ∃ op : List (Int × Int), l = (op.map rowI).map rwD ∧ op.length = l.length ∧ ∀ r ∈ op, (0 ≤ r.1 ∧ r.1 ≤ 9) ∧ 0 ≤ r.2 ∧ r.2 < many := by
      intro l
      induction l with
      | nil => intro _; exact ⟨[], rfl, rfl, by simp⟩
      | cons x l ih =>
        intro hx
        obtain ⟨a, b, rfl, hab⟩ := hx x List.mem_cons_self
        obtain ⟨op, e, el, eo⟩ := ih fun y hy => hx y (List.mem_cons_of_mem _ hy)
        refine ⟨(a, b) :: op, by rw [e]; rfl, by simp [el], fun r hr => ?_⟩
        rcases List.mem_cons.mp hr with rfl | hr
        · exact hab
        · exact eo r hr
    obtain ⟨op, e, el, eo⟩ := key out fun x hx => by
      obtain ⟨k, hk, hx⟩ := List.mem_iff_getElem.mp hx
      have hk2 : k < many := by omega
      exact hp k (.int (0 + (k : Int))) x (by simp [rngD, hk2]) (by simp [hk, hx])
    subst e
    exact h op ⟨by omega, eo⟩
def n__law_table : List Str := ["_law_d", "_law_most_stands", "_law_most_operations", "_law_many", "_law_k"]
def d__law_table : DS := (dSeq (dIfS (dTst (d2 ltD (d2 modD (dIx (dVarC 0) (dC (.int 0))) (dC (.int 5))) (dC (.int 2))))
  (dRet (dCall c__law_known (dCons (dSl (dVarC 0) (dSome (dC (.int 1))) dNo) dNil)))
  dNext)
  (dSeq (dAsg 3 (d2 addD (dC (.int 1)) (d2 modD (dIx (dVarC 0) (dC (.int 1))) (dVar 1))))
  (dRet (dCBC tupC (dCofO (dLc [4] (dRng1 (d2 addD (dC (.int 1)) (d2 modD (dIx (dVarC 0) (dC (.int 2))) (dVar 2)))) (gN 4) dYes (dCall c__law_rows (dCons (dSl (dVarC 0) (dSome (d2 addD (dC (.int 3)) (d2 mulD (dC (.int 6)) (dVar 4)))) dNo) (dCons (dVar 3) dNil)))))))))
def c__law_table : Ct := fun ds R _ => ∃ (ns : List Int) (ms mo : Nat), ds = [.list (ns.map .int), .int ms, .int mo] ∧ Sm ns ∧ 27 ≤ ns.length ∧ ns.length ≤ 50000 ∧ 1 ≤ ms ∧ ms ≤ 5 ∧ 1 ≤ mo ∧ mo ≤ 4 ∧ ∀ t n, GoodN n t → (t ∈ knownT ∨ (n ≤ ms ∧ t.length ≤ mo)) → R (.sh (tabD t))
theorem l__law_table : ∀ ds R Xd, c__law_table ds R Xd → ds.length = 3 := by
  rintro ds R Xd ⟨d, _, _, rfl, h⟩
  rfl
theorem Sm.drop {ns : List Int} (h : Sm ns) (n : Nat) : Sm (ns.drop n) := fun z hz => h z (List.mem_of_mem_drop hz)
theorem cut_from {ns : List Int} {k : Nat} (h : k ≤ ns.length) : cutD (ns.map PyData.int) (some (k : Int)) none = (ns.drop k).map PyData.int := by
  rw [cutD_ints, HT.sIx_nat, HT.sIx_none]
  rw [Nat.min_eq_left h, List.take_of_length_le (by simp)]
theorem cut_ab {ns : List Int} {a b : Nat} (hab : a ≤ b) (h : b ≤ ns.length) : cutD (ns.map PyData.int) (some (a : Int)) (some (b : Int)) = ((ns.drop a).take (b - a)).map PyData.int := by
  rw [cutD_ints, HT.sIx_nat, HT.sIx_nat]
  rw [Nat.min_eq_left h, Nat.min_eq_left (show a ≤ ns.length by omega)]
theorem p__law_table : Kp d__law_table n__law_table c__law_table := by
  rintro ds R Xd ⟨ns, ms, mo, rfl, hs, hl, hl2, a1, a5, b1, b4, h⟩
  have h0 : ns[0]? = some ns[0] := List.getElem?_eq_getElem (by omega)
  have h1 : ns[1]? = some ns[1] := List.getElem?_eq_getElem (by omega)
  have h2 : ns[2]? = some ns[2] := List.getElem?_eq_getElem (by omega)
  simp [d__law_table, st0, n__law_table, h0]
  split
  · refine ⟨ns.drop 1, ns[1], ?_, ?_, (hs.get (by omega)).1, fun t n ht hg => ⟨_, rfl, h t n hg (.inl ht)⟩⟩
    · rw [show (1 : Int) = ((1 : Nat) : Int) from rfl, cut_from (by omega)]
    · rw [List.getElem?_drop]; exact h1
  · simp [h1, h2]
    have p0 := hs.get (show 1 < ns.length by omega)
    have p2 := hs.get (show 2 < ns.length by omega)
    obtain ⟨n, hn, hn1⟩ : ∃ n : Nat, (1 : Int) + ns[1] % (ms : Int) = (n : Int) ∧ 1 ≤ n ∧ n ≤ ms := by
      have m3 := Int.emod_nonneg ns[1] (show (ms : Int) ≠ 0 by omega)
      have m4 := Int.emod_lt_of_pos ns[1] (show 0 < (ms : Int) by omega)
      exact ⟨(1 + ns[1] % (ms : Int)).toNat, by omega, by omega, by omega⟩
    obtain ⟨o, ho, ho1⟩ : ∃ n : Nat, (1 : Int) + ns[2] % (mo : Int) = (n : Int) ∧ 1 ≤ n ∧ n ≤ mo := by
      have m3 := Int.emod_nonneg ns[2] (show (mo : Int) ≠ 0 by omega)
      have m4 := Int.emod_lt_of_pos ns[2] (show 0 < (mo : Int) by omega)
      exact ⟨(1 + ns[2] % (mo : Int)).toNat, by omega, by omega, by omega⟩
    refine ⟨by omega, by omega, by omega, by omega, ?_⟩
    rw [hn, ho]
    simp
    refine lc_rel (fun k d x => ∃ op, x = opD (op.map rowI) ∧ GoodOp n op) (by simp; omega) (fun k d hd K hK => ?_) fun out hou hp => ?_
    · obtain ⟨hk, rfl⟩ := rngD_get hd
      simp
      have e3 : (3 : Int) + 6 * (k : Int) = ((3 + 6 * k : Nat) : Int) := by omega
      rw [e3]
      rw [cut_from (by omega)]
      refine ⟨ns.drop (3 + 6 * k), n, rfl, hs.drop _, by simp; omega, by omega, by omega, fun op hop => ⟨_, rfl, hK _ ⟨op, rfl, hop⟩⟩⟩
    · simp at hou
      have key : ∀ l : List PyData, (∀ x ∈ l, ∃ op, x = opD (op.map rowI) ∧ GoodOp n op) → ∃ t : Tab, l = (embT t).map opD ∧ t.length = l.length ∧ ∀ op ∈ t, GoodOp n op := by
        intro l
        induction l with
        | nil => intro _; exact ⟨[], rfl, rfl, by simp⟩
        | cons x l ih =>
          intro hx
          obtain ⟨op, rfl, hop⟩ := hx x List.mem_cons_self
          obtain ⟨t, e, el, eo⟩ := ih fun y hy => hx y (List.mem_cons_of_mem _ hy)
          refine ⟨op :: t, by rw [e]; rfl, by simp [el], fun r hr => ?_⟩
          rcases List.mem_cons.mp hr with rfl | hr
          · exact hop
          · exact eo r hr
      obtain ⟨t, e, el, eo⟩ := key out fun x hx => by
        obtain ⟨k, hk, hx⟩ := List.mem_iff_getElem.mp hx
        have hk2 : k < o := by omega
        exact hp k (.int (0 + (k : Int))) x (by simp [rngD, hk2]) (by simp [hk, hx])
      subst e
      exact h t n ⟨by omega, by omega, by omega, by omega, eo⟩ (.inr ⟨by omega, by omega⟩)
end WH
namespace WH
open PySem PySem.Spec L2
def n__law_same : List Str := ["_law_found", "_law_due", "_law_k"]
def d__law_same (c_self : Ct) : DS := (dSeq (dIfS (dTst (d2 isD (dVar 1) (dC .none)))
  (dRet (d2 isD (dVar 0) (dC .none)))
  dNext)
  (dSeq (dIfS (dTst (dIsi2 "list" "tuple" (dVar 1)))
  (dSeq (dIfS (dOr (dTst (d2 neD (dIsi "list" (dVar 0)) (dIsi "list" (dVar 1)))) (dTst (d2 neD (dIsi "tuple" (dVar 0)) (dIsi "tuple" (dVar 1)))))
  (dRet (dC (.bool false)))
  dNext)
  (dRet (dAndV (d2 eqD (dCB lenD (dCons (dVar 0) dNil)) (dCB lenD (dCons (dVar 1) dNil))) (dCBC allC (dCofO (dLc [2] (dRng1 (dCB lenD (dCons (dVar 1) dNil))) (gN 2) dYes (dCall c_self (dCons (dIx (dVarC 0) (dVar 2)) (dCons (dIx (dVarC 1) (dVar 2)) dNil)))))))))
  dNext)
  (dSeq (dIfS (dOr (dTst (d2 neD (dIsi "bool" (dVar 0)) (dIsi "bool" (dVar 1)))) (dTst (d2 neD (dIsi "str" (dVar 0)) (dIsi "str" (dVar 1)))))
  (dRet (dC (.bool false)))
  dNext)
  (dRet (dAndV (d2 eqD (dIsi "int" (dVar 0)) (dIsi "int" (dVar 1))) (d2 eqD (dVar 0) (dVar 1)))))))
def Sd : Nat → PyData → Prop
  | _, .none => True
  | _, .int _ => True
  | _, .bool _ => True
  | _, .str s => PyData.strOk s = true
  | n + 1, .list ds => ds.length ≤ 50000 ∧ ∀ d ∈ ds, Sd n d
  | n + 1, .tuple ds => ds.length ≤ 50000 ∧ ∀ d ∈ ds, Sd n d
  | _, _ => False
theorem Sd.mono : ∀ {n m : Nat} {d : PyData}, Sd n d → n ≤ m → Sd m d
  | n, m, .none, _, _ => by cases m <;> trivial
  | n, m, .int _, _, _ => by cases m <;> trivial
  | n, m, .bool _, _, _ => by cases m <;> trivial
  | n, m, .str _, h, _ => by cases m <;> cases n <;> exact h
  | n + 1, m + 1, .list ds, h, hm => ⟨h.1, fun d hd => (h.2 d hd).mono (by omega)⟩
  | n + 1, m + 1, .tuple ds, h, hm => ⟨h.1, fun d hd => (h.2 d hd).mono (by omega)⟩
  | n, m, .dict _, h, hm => by cases n <;> exact h.elim
theorem Sd.cl : ∀ {n : Nat} {d : PyData}, Sd n d → d.canLay0 = true ∧ d.depth ≤ n
  | n, .none, _ => ⟨rfl, by simp [PyData.depth]⟩
  | n, .int _, _ => ⟨rfl, by simp [PyData.depth]⟩
  | n, .bool _, _ => ⟨rfl, by simp [PyData.depth]⟩
  | n, .str _, h => ⟨by cases n <;> exact h, by simp [PyData.depth]⟩
  | n, .dict _, h => by cases n <;> exact h.elim
  | n + 1, .list ds, h => by
    have : PyData.canLayAll0 ds = true ∧ PyData.depthAll ds ≤ n := by
      have h2 := h.2
      clear h
      induction ds with
      | nil => exact ⟨rfl, by simp [PyData.depthAll]⟩
      | cons x xs ih =>
        have a := (h2 x (by simp)).cl
        have b := ih fun y hy => h2 y (List.mem_cons_of_mem _ hy)
        exact ⟨by simp [PyData.canLayAll0, a.1, b.1], by simp only [PyData.depthAll]; omega⟩
    exact ⟨this.1, by simp only [PyData.depth]; omega⟩
  | n + 1, .tuple ds, h => by
    have : PyData.canLayAll0 ds = true ∧ PyData.depthAll ds ≤ n := by
      have h2 := h.2
      clear h
      induction ds with
      | nil => exact ⟨rfl, by simp [PyData.depthAll]⟩
      | cons x xs ih =>
        have a := (h2 x (by simp)).cl
        have b := ih fun y hy => h2 y (List.mem_cons_of_mem _ hy)
        exact ⟨by simp [PyData.canLayAll0, a.1, b.1], by simp only [PyData.depthAll]; omega⟩
    exact ⟨this.1, by simp only [PyData.depth]; omega⟩
theorem Sd.shaped {n : Nat} {d : PyData} (h : Sd n d) (hn : n ≤ 64) : SeqAt.shaped d = true := by
  have := h.cl
  unfold SeqAt.shaped
  simp [this.1]
  omega
def cc__law_same : Nat → Ct
  | 0 => fun _ _ _ => False
  | n + 1 => fun ds R _ => ∃ a, ds = [a, a] ∧ Sd n a ∧ R (.sh (.bool true))
def c__law_same : Ct := cc__law_same 9
theorem l__law_same : ∀ n ds R Xd, cc__law_same n ds R Xd → ds.length = 2 := by
  intro n ds R Xd h
  cases n with
  | zero => exact h.elim
  | succ n => obtain ⟨a, rfl, h⟩ := h; rfl
theorem all_true {bs : List PyData} (h : ∀ x ∈ bs, x = .bool true) {Q : PyData → Prop} (q : Q (.bool true)) : allC false bs Q := by
  refine ⟨bs.map fun _ => true, rfl, ?_, ?_⟩
  · rw [List.map_map]
    apply List.ext_getElem
    · simp
    · intro i h1 h2
      simp
      exact h _ (List.getElem_mem h1)
  · have : (bs.map fun _ => true).all id = true := by simp
    rw [this]; exact q
theorem p__law_same : ∀ n, Kp (d__law_same (cc__law_same n)) n__law_same (cc__law_same (n + 1)) := by
  rintro n ds R Xd ⟨a, rfl, hs, h⟩
  cases a with
  | none => simpa [d__law_same, st0, n__law_same] using h
  | int i => simpa [d__law_same, st0, n__law_same] using h
  | bool i => simpa [d__law_same, st0, n__law_same] using h
  | str i =>
    have hs' : PyData.strOk i = true := by cases n <;> exact hs
    simpa [d__law_same, st0, n__law_same, hs'] using h
  | list ds =>
    cases n with
    | zero => exact hs.elim
    | succ n =>
    have hs1 : ds.length ≤ 50000 := hs.1
    simp [d__law_same, st0, n__law_same]
    refine ⟨by omega, ?_⟩
    refine lc_rel (fun _ _ x => x = .bool true) (by simpa using hs.1) (fun k d hd K hK => ?_) fun out hl hp => ?_
    · obtain ⟨hk, rfl⟩ := rngD_get hd
      simp [List.getElem?_eq_getElem hk]
      exact ⟨ds[k], rfl, hs.2 _ (List.getElem_mem hk), ⟨_, rfl, hK _ rfl⟩⟩
    · refine all_true (fun x hx => ?_) h
      obtain ⟨k, hk, rfl⟩ := List.mem_iff_getElem.mp hx
      exact hp k (.int (0 + (k : Int))) _ (by have : k < ds.length := by simpa [hl] using hk
                                              simp [rngD, this]) (List.getElem?_eq_getElem hk)
  | tuple ds =>
    cases n with
    | zero => exact hs.elim
    | succ n =>
    have hs1 : ds.length ≤ 50000 := hs.1
    simp [d__law_same, st0, n__law_same]
    refine ⟨by omega, ?_⟩
    refine lc_rel (fun _ _ x => x = .bool true) (by simpa using hs.1) (fun k d hd K hK => ?_) fun out hl hp => ?_
    · obtain ⟨hk, rfl⟩ := rngD_get hd
      simp [List.getElem?_eq_getElem hk]
      exact ⟨ds[k], rfl, hs.2 _ (List.getElem_mem hk), ⟨_, rfl, hK _ rfl⟩⟩
    · refine all_true (fun x hx => ?_) h
      obtain ⟨k, hk, rfl⟩ := List.mem_iff_getElem.mp hx
      exact hp k (.int (0 + (k : Int))) _ (by have : k < ds.length := by simpa [hl] using hk
                                              simp [rngD, this]) (List.getElem?_eq_getElem hk)
  | dict _ => cases n <;> exact hs.elim
end WH
namespace WH
open PySem PySem.Spec L2
theorem mod_at (a : Int) {n : Nat} (h : 0 < n) : ∃ i : Nat, a % (n : Int) = (i : Int) ∧ i < n := by
  have m3 := Int.emod_nonneg a (show (n : Int) ≠ 0 by omega)
  have m4 := Int.emod_lt_of_pos a (show 0 < (n : Int) by omega)
  exact ⟨(a % (n : Int)).toNat, by omega, by omega⟩
abbrev xP (nm : Str) : Exn := (nm, [(("word" : Str), .str nm)])
def many0 (t : List (List Row)) : Nat := (t.headD []).length
def Gd (t : List (List Row)) (X : XD) (P : Prop) : Prop := TbOk t ∧ (∀ n, fault t = some n → X (xBadTable n)) ∧ (fault t = none → P)
theorem gd_good {n : Nat} {t : Tab} (g : GoodN n t) {X : XD} {P : Prop} (h : P) : Gd (embT t) X P := ⟨tbOk_good g, fun m hm => (by rw [fault_good g] at hm; cases hm), fun _ => h⟩
theorem many0_good {n : Nat} {t : Tab} (g : GoodN n t) : many0 (embT t) = n := by
  cases t with
  | nil => have := g.o1; simp at this
  | cons op t => simp [many0, embT, (g.op op List.mem_cons_self).1]
theorem gd_cons {t : List (List Row)} (h : fault t = none) : ∃ rs t', t = rs :: t' := by
  cases t with
  | nil => cases h
  | cons rs t => exact ⟨rs, t, rfl⟩
theorem c_look {t : List (List Row)} {R : Slot → Prop} {X : XD} {P : Prop} (h : Gd t X P) (k : P → fault t = none → R (.sh .none)) : c_look_table [tbD t] R X := ⟨t, rfl, h.1, fun e => k (h.2.2 e) e, h.2.1⟩
theorem same_of {d : PyData} (hs : Sd 8 d) {R : Slot → Prop} {X : XD} (h : R (.sh (.bool true))) : c__law_same [d, d] R X := ⟨d, rfl, hs, h⟩
theorem trd_P {nm : Str} (h : nm.length ≤ 100) : TrD 4 (xP nm) nm := ⟨by simp [List.lookup], h, .inl ⟨rfl, rfl⟩⟩
theorem sd_two {d : PyData} {s : Str} (h : Sd 7 d) (hs : PyData.strOk s = true) : Sd 8 (.tuple [d, .str s]) := ⟨by simp, fun x hx => by
  simp at hx
  rcases hx with rfl | rfl
  · exact h
  · exact hs⟩
theorem sd_no {s : Str} (hs : PyData.strOk s = true) : Sd 8 (.tuple [.none, .str s]) := sd_two (d := .none) trivial hs
@[simp] theorem atI_lit {α : Type} (xs : List α) (n : Nat) : atI xs (no_index (OfNat.ofNat n : Int)) = xs[(OfNat.ofNat n : Nat)]? := atI_nat xs n
def natD (h : Nat) : PyData := .int (h : Int)
@[simp] theorem flat_nat (h : Nat) : flatD (natD h) = true := rfl
theorem rowAt_get {n : Nat} {t : Tab} (g : GoodN n t) {a b : Nat} (ha : a < t.length) (hb : b < n) : ∃ op, t[a]? = some op ∧ op.length = n ∧ op[b]? = some (rowAt t a b) ∧ (0 ≤ (rowAt t a b).1 ∧ (rowAt t a b).1 ≤ 9) ∧ 0 ≤ (rowAt t a b).2 ∧ (rowAt t a b).2 < n := by
  have h1 : t[a]? = some t[a] := List.getElem?_eq_getElem ha
  have go := g.op _ (List.getElem_mem ha)
  have h2 : t[a][b]? = some (t[a][b]'(by rw [go.1]; exact hb)) := List.getElem?_eq_getElem _
  have e : rowAt t a b = t[a][b]'(by rw [go.1]; exact hb) := by simp [rowAt, List.getD, h1, h2]
  refine ⟨t[a], h1, go.1, by rw [e]; exact h2, ?_⟩
  rw [e]
  exact go.2 _ (List.getElem_mem _)
def opI (op : List (Int × Int)) : PyData := opD (op.map rowI)
theorem tabD_map (t : Tab) : tabD t = .tuple (t.map opI) := by
  show PyData.tuple ((embT t).map opD) = _
  unfold embT
  rw [List.map_map]
  rfl
theorem opI_map (op : List (Int × Int)) : opI op = .tuple (op.map fun r => .tuple [.int r.1, .int r.2]) := by
  simp [opI, opD, rwD, rowI, Function.comp_def]
def n_look_stand : List Str := ["table", "stand"]
def d_look_stand : DS := (dSeq (dDrop (dCall c_look_table (dCons (dVar 0) dNil)))
  (dIfS (dNot (dTst (dChain leD ltD (dC (.int 0)) (dVar 1) (dCB lenD (dCons (dIx (dVarC 0) (dC (.int 0))) dNil)))))
  (dRaise "NoStand" (xfD "NoStand" []) 1 (dCons (dC (.str "no such stand")) dNil))
  dNext))
def c_look_stand : Ct := fun ds R X => ∃ (t : List (List Row)) (st : Int), ds = [tbD t, .int st] ∧ Gd t X ((0 ≤ st → st < many0 t → R (.sh .none)) ∧ ((st < 0 ∨ (many0 t : Int) ≤ st) → X (xP "NoStand")))
theorem l_look_stand : ∀ ds R Xd, c_look_stand ds R Xd → ds.length = 2 := by
  rintro ds R Xd ⟨_, _, rfl, _⟩
  rfl
theorem p_look_stand : Kp d_look_stand n_look_stand c_look_stand := by
  rintro ds R Xd ⟨t, st, rfl, h⟩
  simp [d_look_stand, st0, n_look_stand]
  refine c_look h fun ⟨h1, h2⟩ e => ⟨⟨_, rfl⟩, ?_⟩
  obtain ⟨rs, t', rfl⟩ := gd_cons e
  simp [tbD]
  rw [show lenD [opD rs] = lenD [.tuple (rs.map rwD)] from rfl]
  simp
  by_cases c1 : 0 ≤ st
  · by_cases c2 : st < (rs.length : Int)
    · rw [if_pos c1, if_pos c2]; exact h1 c1 c2
    · rw [if_pos c1, if_neg c2]; exact h2 (.inr (by simp [many0]; omega))
  · rw [if_neg c1]; exact h2 (.inl (by omega))
theorem inD_nat (h : Int) (L : List Nat) : inD (.int h) (L.map natD) = decide (0 ≤ h ∧ h.toNat ∈ L) := by
  unfold inD
  rw [List.any_map]
  apply Bool.eq_iff_iff.mpr
  rw [List.any_eq_true, decide_eq_true_eq]
  constructor
  · rintro ⟨y, hy, e⟩
    simp [natD] at e
    subst e
    exact ⟨by omega, by simpa using hy⟩
  · rintro ⟨h0, hm⟩
    exact ⟨_, hm, by simp [natD]; omega⟩
theorem nxA_lt {n : Nat} {t : Tab} (g : GoodN n t) {o m : Nat} (ho : o < t.length) (hm : m < n) : nxA t o m < n := by
  obtain ⟨op, q1, q2, q3, q4, q5, q6⟩ := rowAt_get g ho hm
  unfold nxA
  omega
theorem cntS_le (n : Nat) (S : Int → Bool) : cntS n S ≤ n := by
  have := List.countP_le_length (p := fun m : Nat => S (m : Int)) (l := List.range n)
  rw [List.length_range] at this
  exact this
theorem countP_add {l : List Nat} (nd : l.Nodup) (p : Nat → Bool) (v : Nat) (hv : v ∈ l) (hp : p v = false) : l.countP (fun m => p m || decide (m = v)) = l.countP p + 1 := by
  induction l with
  | nil => cases hv
  | cons x l ih =>
    obtain ⟨n1, n2⟩ := List.nodup_cons.mp nd
    rw [List.countP_cons, List.countP_cons]
    by_cases e : x = v
    · subst e
      rw [hp]
      have : l.countP (fun m => p m || decide (m = x)) = l.countP p := by
        apply List.countP_congr
        intro y hy
        have : y ≠ x := fun z => n1 (z ▸ hy)
        simp [this]
      rw [this]
      simp
    · rw [ih n2 (by rcases List.mem_cons.mp hv with z | z; exact (e z.symm).elim; exact z)]
      simp [e]
      omega
theorem cntS_add {n v : Nat} {S : Int → Bool} (hv : v < n) (h : S (v : Int) = false) : cntS n (fun j => S j || decide (j = (v : Int))) = cntS n S + 1 := by
  unfold cntS
  rw [← countP_add (List.nodup_range) (fun m : Nat => S (m : Int)) v (List.mem_range.mpr hv) h]
  apply List.countP_congr
  intro m _
  have : ((m : Int) = (v : Int)) ↔ m = v := by omega
  simp [this]
def ClM (t : Tab) (S : Int → Bool) (m : Nat) : Prop := ∀ o, o < t.length → S (nxA t o m : Int) = true
theorem ri_all {t : Tab} {n k c : Nat} {S : Int → Bool} (h : RI t n k S c []) (cl : ∀ m : Nat, S (m : Int) = true → ClM t S m) (x : Int) : S x = true ↔ ∃ m : Nat, x = m ∧ Rch t k m := by
  constructor
  · intro hx
    obtain ⟨m, e, _, r⟩ := h.sub x hx
    exact ⟨m, e, r⟩
  · rintro ⟨m, rfl, r⟩
    induction r with
    | base => exact h.here
    | step _ ho ih => exact cl _ ih _ ho
theorem ri_add {t : Tab} {n k c v : Nat} {S : Int → Bool} {rows : List Nat} (h : RI t n k S c rows) (hv : v < n) (hr : Rch t k v) (hS : S (v : Int) = false) : RI t n k (fun j => S j || decide (j = (v : Int))) (c + 1) (rows ++ [v]) := by
  refine ⟨fun x hx => ?_, by simp [h.here], fun m hm => ?_, by rw [cntS_add hv hS, h.cnt]⟩
  · simp only [Bool.or_eq_true, decide_eq_true_eq] at hx
    rcases hx with hx | rfl
    · exact h.sub x hx
    · exact ⟨v, rfl, hv, hr⟩
  · rcases List.mem_append.mp hm with hm | hm
    · simp [h.rw m hm]
    · rw [List.mem_singleton.mp hm]; simp
theorem ri_start {t : Tab} {n k : Nat} (hk : k < n) : RI t n k (fun j => decide (j = (k : Int))) 1 [k] := by
  refine ⟨fun x hx => ⟨k, of_decide_eq_true hx, hk, .base⟩, by simp, fun m hm => by rw [List.mem_singleton.mp hm]; simp, ?_⟩
  have e : cntS n (fun j => (fun _ : Int => false) j || decide (j = (k : Int))) = cntS n (fun _ => false) + 1 := cntS_add (S := fun _ => false) hk rfl
  have z : cntS n (fun _ => false) = 0 := by unfold cntS; simp
  rw [z] at e
  simpa using e.symm
def addH (t : Tab) (o : Nat) (L : List Nat) : List Nat := L ++ (L.filter fun s => !decide (nxA t o s ∈ L)).map (nxA t o)
theorem cntL_le (n : Nat) (L : List Nat) : cntL n L ≤ n := by
  have := List.countP_le_length (p := fun m : Nat => decide (m ∈ L)) (l := List.range n)
  rw [List.length_range] at this
  exact this
theorem cntL_mono {n : Nat} {L L' : List Nat} (h : ∀ x ∈ L, x ∈ L') : cntL n L ≤ cntL n L' := by
  unfold cntL
  exact List.countP_mono_left fun x _ hx => by simpa using h x (by simpa using hx)
theorem cntL_new {n v : Nat} {L L' : List Nat} (hv : v < n) (h : ∀ x ∈ L, x ∈ L') (h1 : v ∉ L) (h2 : v ∈ L') : cntL n L + 1 ≤ cntL n L' := by
  unfold cntL
  rw [← countP_add (List.nodup_range) (fun m => decide (m ∈ L)) v (List.mem_range.mpr hv) (by simpa using h1)]
  exact List.countP_mono_left fun x _ hx => by
    simp only [Bool.or_eq_true, decide_eq_true_eq] at hx ⊢
    rcases hx with hx | rfl
    · exact h x hx
    · exact h2
theorem hl_start {t : Tab} {n k : Nat} (hk : k < n) : HL t n k [k] := by
  refine ⟨fun x hx => by rw [List.mem_singleton.mp hx]; exact ⟨hk, .base⟩, by simp, ?_⟩
  have : cntL n [] + 1 ≤ cntL n [k] := cntL_new hk (fun x hx => nomatch hx) (by simp) (by simp)
  have : 2 ^ 1 ≤ 2 ^ cntL n [k] := Nat.pow_le_pow_right (by omega) (by omega)
  simpa using this
theorem hl_len {t : Tab} {n k : Nat} {L : List Nat} (h : HL t n k L) (h5 : n ≤ 5) : L.length ≤ 16 := by
  have h1 := h.len
  have h2 := cntL_le n L
  have : 2 ^ cntL n L ≤ 2 ^ 5 := Nat.pow_le_pow_right (by omega) (by omega)
  omega
theorem addH_mem {t : Tab} {o : Nat} {L : List Nat} {s : Nat} (hs : s ∈ L) : nxA t o s ∈ addH t o L := by
  unfold addH
  by_cases c : nxA t o s ∈ L
  · exact List.mem_append_left _ c
  · exact List.mem_append_right _ (List.mem_map.mpr ⟨s, List.mem_filter.mpr ⟨hs, by simpa using c⟩, rfl⟩)
theorem hl_add {t : Tab} {n k o : Nat} {L : List Nat} (g : GoodN n t) (h : HL t n k L) (ho : o < t.length) : HL t n k (addH t o L) ∧ ((addH t o L = L ∧ ∀ s ∈ L, nxA t o s ∈ L) ∨ cntL n L + 1 ≤ cntL n (addH t o L)) := by
  have inc : ∀ x ∈ L, x ∈ addH t o L := fun x hx => List.mem_append_left _ hx
  have sub : ∀ x ∈ addH t o L, x < n ∧ Rch t k x := fun x hx => by
    rcases List.mem_append.mp hx with hx | hx
    · exact h.sub x hx
    · obtain ⟨s, hs, rfl⟩ := List.mem_map.mp hx
      obtain ⟨a, b⟩ := h.sub s (List.mem_filter.mp hs).1
      exact ⟨nxA_lt g ho a, .step b ho⟩
  by_cases c : ∀ s ∈ L, nxA t o s ∈ L
  · have e : addH t o L = L := by
      unfold addH
      have : (L.filter fun s => !decide (nxA t o s ∈ L)) = [] := by
        rw [List.filter_eq_nil_iff]
        intro s hs
        simpa using c s hs
      rw [this]
      simp
    rw [e]
    exact ⟨h, .inl ⟨rfl, c⟩⟩
  · obtain ⟨s, hs, hn⟩ : ∃ s, s ∈ L ∧ nxA t o s ∉ L := by
      rcases Classical.not_forall.mp c with ⟨s, hs⟩
      rcases Classical.not_imp.mp hs with ⟨h1, h2⟩
      exact ⟨s, h1, h2⟩
    have new := cntL_new (n := n) (nxA_lt g ho (h.sub s hs).1) inc hn (addH_mem hs)
    refine ⟨⟨sub, inc _ h.here, ?_⟩, .inr new⟩
    have l1 : (addH t o L).length ≤ 2 * L.length := by
      unfold addH
      rw [List.length_append, List.length_map]
      have := List.length_filter_le (fun s => !decide (nxA t o s ∈ L)) L
      omega
    have l2 := h.len
    have l3 : 2 ^ (cntL n L + 1) ≤ 2 ^ cntL n (addH t o L) := Nat.pow_le_pow_right (by omega) new
    have l4 : 2 ^ (cntL n L + 1) = 2 ^ cntL n L * 2 := Nat.pow_succ 2 (cntL n L)
    omega
def ClL (t : Tab) (L : List Nat) : Prop := ∀ s ∈ L, ∀ o, o < t.length → nxA t o s ∈ L
def TnI (t : Tab) (n p : Nat) (L0 L : List Nat) : Prop := (L = L0 ∧ ∀ o, o < p → ∀ s ∈ L, nxA t o s ∈ L) ∨ cntL n L0 + 1 ≤ cntL n L
theorem tn_step {t : Tab} {n k p : Nat} {L0 L : List Nat} (g : GoodN n t) (h : HL t n k L) (hp : p < t.length) (i : TnI t n p L0 L) : HL t n k (addH t p L) ∧ TnI t n (p + 1) L0 (addH t p L) := by
  obtain ⟨h1, h2⟩ := hl_add g h hp
  refine ⟨h1, ?_⟩
  have mono : cntL n L ≤ cntL n (addH t p L) := cntL_mono fun x hx => List.mem_append_left _ hx
  rcases i with ⟨rfl, i⟩ | i
  · rcases h2 with ⟨e, h2⟩ | h2
    · rw [e]
      refine .inl ⟨rfl, fun o ho s hs => ?_⟩
      by_cases z : o = p
      · rw [z]; exact h2 s hs
      · exact i o (by omega) s hs
    · exact .inr h2
  · exact .inr (by omega)
def TuI (t : Tab) (n j : Nat) (L : List Nat) : Prop := ClL t L ∨ j + 1 ≤ cntL n L
theorem tu_step {t : Tab} {n k j : Nat} {L0 L : List Nat} (g : GoodN n t) (h0 : HL t n k L0) (i0 : TuI t n j L0) (i : TnI t n t.length L0 L) (hc : ClL t L0 → L = L0) : TuI t n (j + 1) L := by
  rcases i with ⟨rfl, i⟩ | i
  · exact .inl fun s hs o ho => i o ho s hs
  · rcases i0 with c | i0
    · have := hc c
      subst this
      omega
    · exact .inr (by omega)
theorem hl_all {t : Tab} {n k : Nat} {L : List Nat} (h : HL t n k L) (c : ClL t L) (x : Int) : (x ∈ L.map fun m : Nat => (m : Int)) ↔ ∃ m : Nat, x = m ∧ Rch t k m := by
  rw [List.mem_map]
  constructor
  · rintro ⟨m, hm, rfl⟩
    exact ⟨m, rfl, (h.sub m hm).2⟩
  · rintro ⟨m, rfl, r⟩
    refine ⟨m, ?_, rfl⟩
    induction r with
    | base => exact h.here
    | step _ ho ih => exact c _ ih _ ho
theorem rise_eq : ∀ {a b : List Int}, a.Pairwise (· < ·) → b.Pairwise (· < ·) → (∀ x, x ∈ a ↔ x ∈ b) → a = b
  | [], [], _, _, _ => rfl
  | [], y :: b, _, _, h => nomatch (h y).mpr List.mem_cons_self
  | x :: a, [], _, _, h => nomatch (h x).mp List.mem_cons_self
  | x :: a, y :: b, ha, hb, h => by
    obtain ⟨a1, a2⟩ := List.pairwise_cons.mp ha
    obtain ⟨b1, b2⟩ := List.pairwise_cons.mp hb
    have e : x = y := by
      rcases List.mem_cons.mp ((h x).mp List.mem_cons_self) with e | e
      · exact e
      · rcases List.mem_cons.mp ((h y).mpr List.mem_cons_self) with e2 | e2
        · exact e2.symm
        · have := b1 x e
          have := a1 y e2
          omega
    subst e
    rw [rise_eq a2 b2 fun z => ?_]
    constructor
    · intro hz
      rcases List.mem_cons.mp ((h z).mp (List.mem_cons_of_mem _ hz)) with e | e
      · have := a1 z hz
        omega
      · exact e
    · intro hz
      rcases List.mem_cons.mp ((h z).mpr (List.mem_cons_of_mem _ hz)) with e | e
      · have := b1 z hz
        omega
      · exact e
theorem addH_closed {t : Tab} {o : Nat} {L : List Nat} (c : ∀ s ∈ L, nxA t o s ∈ L) : addH t o L = L := by
  unfold addH
  have : (L.filter fun s => !decide (nxA t o s ∈ L)) = [] := by
    rw [List.filter_eq_nil_iff]
    intro s hs
    simpa using c s hs
  rw [this]
  simp
theorem tu_done {t : Tab} {n : Nat} {L : List Nat} (i : TuI t n n L) : ClL t L := by
  rcases i with c | i
  · exact c
  · have := cntL_le n L
    omega
theorem nd_len {a b : List Int} (nd : a.Nodup) (h : ∀ x ∈ a, x ∈ b) : a.length ≤ b.length := by
  induction a generalizing b with
  | nil => exact Nat.zero_le _
  | cons x a ih =>
    have nd' := List.nodup_cons.mp nd
    have hx := h x List.mem_cons_self
    have := ih (b := b.erase x) nd'.2 fun y hy => (List.mem_erase_of_ne (fun z => nd'.1 (by rw [← z]; exact hy))).mpr (h y (List.mem_cons_of_mem _ hy))
    rw [List.length_erase_of_mem hx] at this
    have := List.length_pos_of_mem hx
    simp only [List.length_cons]
    omega
theorem rise_nd {a : List Int} (h : a.Pairwise (· < ·)) : a.Nodup := h.imp fun {x y} e z => by omega
theorem sd_intl {m : Nat} {l : List Int} (h : l.length ≤ 50000) : Sd (m + 1) (.list (l.map .int)) := ⟨by simpa using h, fun d hd => by
  obtain ⟨i, _, rfl⟩ := List.mem_map.mp hd
  cases m <;> trivial⟩
end WH
namespace WH
open PySem PySem.Spec L2
def d_reached_r9 : DS := (dApp 3 (dVar 6))
def d_reached_r7 : DS := (dIfS (dTst (dSetNI (dVar 6) 2))
  (dSeq (dSetAdd 2 (dVar 6))
  d_reached_r9)
  dNext)
def d_reached_r5 : DS := (dFor (dIt (dVar 0)) (gN 5)
  (dSeq (dAsg 6 (dIx (dCofE (dIx (dVarC 5) (dVar 4))) (dC (.int 1))))
  d_reached_r7))
def d_reached_r4 : DS := (dRetO (oSrtN 2))
def d_reached_r3 : DS := (dSeq (dWhile (dLendT 3 (dTst (d2 neD (dVar 3) (dOfO (dLst dNil)))))
  (dSeq (dPop 3 4)
  d_reached_r5))
  d_reached_r4)
def d_reached_r2 : DS := (dSeq (dAsgO 3 (dLst (dCons (dVar 1) dNil)))
  d_reached_r3)
def d_reached_r1 : DS := (dSeq (dAsgO 2 (oSet1 1))
  d_reached_r2)
def n_reached : List Str := ["table", "stand", "known", "rows", "here", "operation", "later"]
def d_reached : DS := (dSeq (dDrop (dCall c_look_stand (dCons (dVar 0) (dCons (dVar 1) dNil))))
  d_reached_r1)
theorem eqv_nilN (l : List Nat) : PyData.eqv (.list (l.map natD)) (.list []) = decide (l = []) := by
  cases l with
  | nil => rw [PyData.eqv]; rfl
  | cons a l => rw [PyData.eqv]; rfl
def c_reached : Ct := fun ds R X => ∃ (t : Tab) (n : Nat) (b : Int), GoodN n t ∧ ds = [tabD t, .int b] ∧ ((b < 0 ∨ (n : Int) ≤ b) → X (xP "NoStand")) ∧
  ∀ k : Nat, b = k → k < n → ∀ ns : List Int, ns.Pairwise (· < ·) → (∀ x : Int, x ∈ ns ↔ ∃ m : Nat, x = m ∧ Rch t k m) → R (.ow (.lst (ns.map .int)))
theorem l_reached : ∀ ds R Xd, c_reached ds R Xd → ds.length = 2 := by
  rintro ds R Xd ⟨_, _, _, _, rfl, _⟩
  rfl
theorem p_reached : Kp d_reached n_reached c_reached := by
  rintro ds R Xd ⟨t, n, b, g, rfl, h1, h2⟩
  simp [d_reached, st0, n_reached]
  have n5 := g.n5
  have o4 := g.o4
  refine ⟨embT t, b, rfl, gd_good g ⟨fun b0 b1 => ⟨⟨_, rfl⟩, ?_⟩, fun z => ?_⟩⟩
  rotate_left
  · rw [many0_good g] at z
    exact h1 z
  rw [many0_good g] at b1
  obtain ⟨k, rfl⟩ : ∃ k : Nat, b = k := ⟨b.toNat, by omega⟩
  have hk : k < n := by omega
  have q := h2 k rfl hk
  simp [d_reached_r1, d_reached_r2, d_reached_r3]
  refine while_inv (fun m ρ => ∃ (S : Int → Bool) (c : Nat) (rows : List Nat) (s4 s5 s6 : Slot), m = 2 * (n - c) + rows.length ∧ rows.length ≤ c ∧ RI t n k S c rows ∧ (∀ m : Nat, S (m : Int) = true → m ∉ rows → ClM t S m) ∧ ρ = [.sh (tabD t), .sh (.int k), .ow (.set S c), .ow (.lst (rows.map natD)), s4, s5, s6]) (2 * (n - 1) + 1) ⟨_, 1, [k], .no, .no, .no, rfl, Nat.le_refl _, ri_start hk, fun m hm hn => ?_, rfl⟩ ?_
  · have := of_decide_eq_true hm
    exact (hn (by rw [show m = k by omega]; simp)).elim
  rintro m ρ Kn ⟨S, c, rows, s4, s5, s6, rfl, hrc, ri, cl, rfl⟩ hK
  have hc := cntS_le n S
  rw [← ri.cnt] at hc
  simp [-List.map_eq_nil_iff]
  have shp : SeqAt.shaped (.list (rows.map natD)) = true := (show Sd 2 (.list (rows.map natD)) from ⟨by simp; omega, fun d hd => by
    obtain ⟨x, _, rfl⟩ := List.mem_map.mp hd
    trivial⟩).shaped (by omega)
  refine ⟨shp, by decide +kernel, ?_⟩
  rw [eqv_nilN]
  by_cases e : rows = []
  · subst e
    rw [if_pos (by simp)]
    simp [d_reached_r4]
    refine ⟨S, c, ⟨rfl, rfl⟩, by omega, fun ns p1 p2 p3 => ?_⟩
    exact q ns p1 fun x => (p2 x).trans (ri_all ri (fun m hm => cl m hm (by simp)) x)
  rw [if_neg (by simpa using e)]
  obtain ⟨rs, m0, rfl⟩ : ∃ rs m0, rows = rs ++ [m0] := ⟨rows.dropLast, rows.getLast e, (List.dropLast_concat_getLast e).symm⟩
  refine ⟨rs.map natD, natD m0, by simp, ?_⟩
  have hS0 := ri.rw m0 (by simp)
  obtain ⟨m1, e1, hm1, r1⟩ := ri.sub _ hS0
  obtain rfl : m0 = m1 := by omega
  simp [d_reached_r5]
  rw [tabD_map]
  simp
  refine forW_inv (fun j ρ => ∃ (S' : Int → Bool) (c' : Nat) (rows' : List Nat) (s5 s6 : Slot), RI t n k S' c' rows' ∧ rows'.length ≤ c' ∧ 2 * (n - c') + rows'.length ≤ 2 * (n - c) + rs.length ∧ S' (m0 : Int) = true ∧ (∀ m : Nat, S' (m : Int) = true → m ∉ rows' → m ≠ m0 → ClM t S' m) ∧ (∀ o, o < j → S' (nxA t o m0 : Int) = true) ∧
    ρ = [.sh (tabD t), .sh (.int k), .ow (.set S' c'), .ow (.lst (rows'.map natD)), .sh (natD m0), s5, s6]) ⟨S, c, rs, s5, s6, ⟨ri.sub, ri.here, fun m hm => ri.rw m (by simp [hm]), ri.cnt⟩, by simp at hrc; omega, Nat.le_refl _, hS0, fun m hm hn hne => cl m hm (by simp [hn, hne]), fun o ho => by omega, ?_⟩ ?_ ?_
  · rw [tabD_map]
  · rintro ρ ⟨S', c', rows', s5, s6, ri', hr', hm', h0', cl', op', rfl⟩
    refine hK _ _ ?_ ⟨S', c', rows', _, s5, s6, rfl, hr', ri', fun m hm hn => ?_, rfl⟩
    · simp; omega
    · by_cases e : m = m0
      · subst e
        exact fun o ho => op' o (by simpa using ho)
      · exact cl' m hm hn e
  · rintro j d ρ Kj hd ⟨S', c', rows', s5, s6, ri', hr', hm', h0', cl', op', rfl⟩ hKj
    rw [List.getElem?_map] at hd
    obtain ⟨op, q1, hd⟩ := Option.map_eq_some_iff.mp hd
    subst hd
    have hj : j < t.length := (List.getElem?_eq_some_iff.mp q1).1
    obtain ⟨op', e1, e2, e3, e4, e5, e6⟩ := rowAt_get g hj hm1
    rw [q1] at e1
    cases e1
    have e8 : (op.map fun q => PyData.tuple [.int q.1, .int q.2])[m0]? = some (.tuple [.int (rowAt t j m0).1, .int (rowAt t j m0).2]) := by rw [List.getElem?_map, e3]; rfl
    have ev : (rowAt t j m0).2 = ((nxA t j m0 : Nat) : Int) := by unfold nxA; omega
    rw [ev] at e8
    have hv : nxA t j m0 < n := nxA_lt g hj hm1
    have rv : Rch t k (nxA t j m0) := .step r1 hj
    simp [opI_map, natD, e8, -List.getElem?_map]
    have hc' := cntS_le n S'
    rw [← ri'.cnt] at hc'
    simp [d_reached_r7]
    cases hS : S' (nxA t j m0 : Int) with
    | true =>
      rw [if_pos rfl]
      refine hKj _ ⟨S', c', rows', _, _, ri', hr', hm', h0', cl', fun o ho => ?_, rfl⟩
      by_cases e : o = j
      · rw [e]; exact hS
      · exact op' o (by omega)
    | false =>
      rw [if_neg Bool.false_ne_true]
      refine ⟨S', c', ⟨rfl, rfl⟩, by omega, ?_⟩
      rw [hS, if_neg Bool.false_ne_true]
      simp [d_reached_r9]
      have ri2 := ri_add ri' hv rv hS
      have hc2 := cntS_le n (fun x => S' x || decide (x = (nxA t j m0 : Int)))
      rw [← ri2.cnt] at hc2
      refine ⟨by omega, hKj _ ⟨_, c' + 1, rows' ++ [nxA t j m0], _, _, ri2, by simp; omega, by simp; omega, by simp [h0'], fun m hm hn hne o ho => ?_, fun o ho => ?_, by simp [natD]; exact ⟨rfl, rfl⟩⟩⟩
      · simp only [Bool.or_eq_true, decide_eq_true_eq] at hm ⊢
        rcases hm with hm | hm
        · exact .inl (cl' m hm (fun z => hn (by simp [z])) hne o ho)
        · exact (hn (by simp; right; omega)).elim
      · simp only [Bool.or_eq_true, decide_eq_true_eq]
        by_cases e : o = j
        · rw [e]; exact .inr rfl
        · exact .inl (op' o (by omega))
end WH
namespace WH
open PySem PySem.Spec L2
def n__law_called : List Str := ["_law_e", "_law_flags", "_law_every", "_law_found", "_law_name", "_law_here"]
def d__law_called (a dd : Addr) (nm : Str) : DS := (dSeq (dAsg 1 (dOfO (dLst (dCons (dIsX 0 a dd (decide (("BadTable" : Str) = nm))) (dCons (dIsX 0 a dd (decide (("BadText" : Str) = nm))) (dCons (dIsX 0 a dd (decide (("BadChoice" : Str) = nm))) (dCons (dIsX 0 a dd (decide (("BadOrder" : Str) = nm))) dNil)))))))
  (dSeq (dAsg 1 (d2 addD (dVar 1) (dOfO (dLst (dCons (dIsX 0 a dd (decide (("BadMany" : Str) = nm))) (dCons (dIsX 0 a dd (decide (("BadScheme" : Str) = nm))) (dCons (dIsX 0 a dd (decide (("BadWishes" : Str) = nm))) (dCons (dIsX 0 a dd (decide (("BadTurn" : Str) = nm))) dNil))))))))
  (dSeq (dAsg 1 (d2 addD (dVar 1) (dOfO (dLst (dCons (dIsX 0 a dd (decide (("Full" : Str) = nm))) (dCons (dIsX 0 a dd (decide (("TooWide" : Str) = nm))) dNil))))))
  (dSeq (dAsg 1 (d2 addD (dVar 1) (dOfO (dLst (dCons (dIsX 0 a dd (decide (("NoScheme" : Str) = nm))) (dCons (dIsX 0 a dd (decide (("Ended" : Str) = nm))) (dCons (dIsX 0 a dd (decide (("Still" : Str) = nm))) (dCons (dIsX 0 a dd (decide (("Busy" : Str) = nm))) dNil))))))))
  (dSeq (dAsg 1 (d2 addD (dVar 1) (dOfO (dLst (dCons (dIsX 0 a dd (decide (("Idle" : Str) = nm))) (dCons (dIsX 0 a dd (decide (("Undone" : Str) = nm))) (dCons (dIsX 0 a dd (decide (("NoStand" : Str) = nm))) (dCons (dIsX 0 a dd (decide (("NoOperation" : Str) = nm))) dNil))))))))
  (dSeq (dAsg 1 (d2 addD (dVar 1) (dOfO (dLst (dCons (dIsX 0 a dd (decide (("NoHand" : Str) = nm))) (dCons (dIsX 0 a dd (decide (("NothingLeft" : Str) = nm))) dNil))))))
  (dSeq (dAsg 2 (dC (.str "BadTable BadText BadChoice BadOrder BadMany BadScheme BadWishes BadTurn ")))
  (dSeq (dAsg 2 (d2 addD (dVar 2) (dC (.str "Full TooWide NoScheme Ended Still Busy Idle Undone NoStand NoOperation NoHand "))))
  (dSeq (dAsg 2 (d2 addD (dVar 2) (dC (.str "NothingLeft"))))
  (dSeq (dAsg 3 (dJoin (dC (.str "+")) (dCofO (dLc [4, 5] (dZipL (dOfO (dSplit (dVar 2) (dC (.str " ")))) (dVar 1)) (gT 2 (gsCons (gN 4) (gsCons (gN 5) gsNil))) (dTst (dVar 5)) (dVar 4)))))
  (dRet (dIf (dTst (d2 eqD (dXf 0 a dd "word") (dVar 3))) (dVar 3) (d2 addD (dVar 3) (dC (.str "?")))))))))))))))
@[simp] theorem s_dIsX (i : Nat) (a dd : Addr) (b : Bool) (ρ : Sto) (Q : PyData → Prop) (u : XD) : dIsX i a dd b ρ Q u ↔ ∃ fs, ρ[i]? = some (Slot.raw (.ref a) (some (dd, fs))) ∧ Q (.bool b) := Iff.rfl
@[simp] theorem s_dXf (i : Nat) (a dd : Addr) (n : Str) (ρ : Sto) (Q : PyData → Prop) (u : XD) : dXf i a dd n ρ Q u ↔ ∃ fs d, ρ[i]? = some (Slot.raw (.ref a) (some (dd, fs))) ∧ fs.lookup n = some d ∧ Q d := Iff.rfl
theorem p__law_called (a dd : Addr) {nm : Str} {fs : List (Str × PyData)} (hn : nm ∈ callNames) (hw : fs.lookup ("word" : Str) = some (.str nm)) :
    d__law_called a dd nm { nx := fun _ => False, rt := fun s => s = .sh (.str nm), ex := fun _ _ => False } (Slot.raw (.ref a) (some (dd, fs)) :: List.replicate 5 Slot.no) := by
  have hsp : Txt.split (("BadTable BadText BadChoice BadOrder BadMany BadScheme BadWishes BadTurn " : Str) ++ ("Full TooWide NoScheme Ended Still Busy Idle Undone NoStand NoOperation NoHand " : Str) ++ ("NothingLeft" : Str)) (" " : Str) = callNames := by decide +kernel
  have hone : ∀ c ∈ callNames, callNames.filter (fun d => decide (d = c)) = [c] := by decide +kernel
  have hlen : ∀ c ∈ callNames, c.length ≤ 20 ∧ PyData.strOk c = true := by decide +kernel
  simp [d__law_called, List.replicate, hsp]
  refine ⟨by decide +kernel, by decide +kernel, by decide +kernel, by decide +kernel, by decide +kernel, ?_⟩
  refine lc_filM (xs := callNames) (g := fun c => wk [.str c, .bool (decide (c = nm))]) (fun c => decide (c = nm)) (fun c => .str c) (by decide +kernel) (fun c hc K1 K0 h1 h0 => ?_) ?_
  · simp
    by_cases e : c = nm
    · simpa [e] using h1 (by simpa using e)
    · simpa [e] using h0 (by simpa using e)
  · rw [hone nm hn]
    have hl := hlen nm hn
    have hj : Txt.join ("+" : Str) [nm] = nm := rfl
    refine ⟨[nm], rfl, ?_, .str nm, hw, ?_⟩
    · have : ("+" : Str).length = 1 := rfl
      simp [this]
      omega
    · have hs : SeqAt.shaped (PyData.str nm) = true := by unfold SeqAt.shaped; simp [PyData.canLay0, PyData.depth, hl.2]
      rw [hj]
      exact ⟨hs, hl.2, by simp [PyData.eqv]⟩
def d_law_r13 : DS := (dIfS (dNot (dTst (dCall c__law_same (dCons (dCall c_reached (dCons (dVar 3) (dCons (dVar 5) dNil))) (dCons (dOfO (dSrtSetL (dVarC 6))) dNil)))))
  (dRet (dC (.bool false)))
  dNext)
def d_law_r11 : DS := (dSeq (dApp 9 (dC (.int 0)))
  d_law_r13)
def d_law_r10 : DS := (dSeq (dIfS (dNot (dTst (dLend 9 (dCall c__law_same (dCons (dVar 9) (dCons (dOfO (dSrtSetL (dVarC 6))) dNil))))))
  (dRet (dC (.bool false)))
  dNext)
  d_law_r11)
def d_law_r7 : DS := (dSeq (dAsgO 9 (dCallO c_reached (dCons (dVar 3) (dCons (dVar 5) dNil))))
  d_law_r10)
def d_law_r6 : DS := (dSeq (dFor (dRng1 (dVar 4)) (gN 7)
  (dFor (dIt (dVar 3)) (gN 8)
  (dAsg 6 (d2 addD (dVar 6) (dOfO (dLc [11] (dIt (dVar 6)) (gN 11) (dTst (dIn true (dIx (dCofE (dIx (dVarC 8) (dVar 11))) (dC (.int 1))) (dVarC 6))) (dIx (dCofE (dIx (dVarC 8) (dVar 11))) (dC (.int 1)))))))))
  d_law_r7)
def d_law_r16 : DS := (dIfS (dTst (d2 neD (dTried xn_law (dCall c_reached (dCons (dVar 3) (dCons (dVar 10) dNil)))) (dTup (dCons (dC .none) (dCons (dC (.str "NoStand")) dNil)))))
  (dRet (dC (.bool false)))
  dNext)
def d_law_r5 : DS := (dSeq (dAsg 10 (dIx (dCofO (dLst (dCons (dNeg (dC (.int 1))) (dCons (dVar 4) (dCons (dC (.int 999999999)) dNil))))) (d2 modD (dIx (dVarC 1) (dC (.int 199))) (dC (.int 3)))))
  d_law_r16)
def d_law_r4 : DS := (dSeq (dFor (dRng1 (dVar 4)) (gN 5)
  (dSeq (dAsg 6 (dOfO (dLst (dCons (dVar 5) dNil))))
  d_law_r6))
  d_law_r5)
def d_law_r3 : DS := (dSeq (dAsg 4 (dCB lenD (dCons (dIx (dVarC 3) (dC (.int 0))) dNil)))
  d_law_r4)
def d_law_r2 : DS := (dRet (dC (.bool true)))
def d_law_r1 : DS := (dSeq (dFor (dRng1 (dC (.int 6))) (gN 2)
  (dSeq (dAsg 3 (dCall c__law_table (dCons (dSl (dVarC 1) (dSome (d2 mulD (dC (.int 33)) (dVar 2))) (dSome (d2 addD (d2 mulD (dC (.int 33)) (dVar 2)) (dC (.int 33))))) (dCons (dC (.int 5)) (dCons (dC (.int 4)) dNil)))))
  d_law_r3))
  d_law_r2)
def n_law : List Str := ["_law_script", "_law_numbers_here", "_law_k", "_law_table_here", "_law_many", "_law_begin", "_law_here", "_law_turn", "_law_rows_here", "_law_told", "_law_off", "_law_stand"]
def d_law : DS := (dSeq (dAsg 1 (dCall c__law_numbers (dCons (dVar 0) (dCons (dC (.int 200)) dNil))))
  d_law_r1)
def c_law : Ct := fun ds R _ => ∃ ns : List Int, ds = [scrD ns] ∧ ns.length ≤ 63 ∧ R (.sh (.bool true))
theorem l_law : ∀ ds R Xd, c_law ds R Xd → ds.length = 1 := by
  rintro ds R Xd ⟨ns, rfl, h⟩
  rfl
theorem p_law : Kp d_law n_law c_law := by
  rintro ds R Xd ⟨ns, rfl, hn, h⟩
  simp [d_law, st0, n_law]
  refine ⟨ns, 200, rfl, hn, by omega, fun out hl hs => ⟨_, rfl, ?_⟩⟩
  have get : ∀ k : Nat, k < 200 → out[k]? = some (out.getD k 0) := fun k hk => by
    rw [List.getElem?_eq_getElem (by omega)]
    simp [List.getD, show k < out.length by omega]
  simp [d_law_r1]
  refine forW_inv (fun _ ρ => ∃ s2 s3 s4 s5 s6 s7 s8 s9 s10 s11 : Slot, ρ = [.sh (scrD ns), .sh (.list (out.map .int)), s2, s3, s4, s5, s6, s7, s8, s9, s10, s11]) ⟨_, _, _, _, _, _, _, _, _, _, rfl⟩ ?_ ?_
  · rintro ρ ⟨s2, s3, s4, s5, s6, s7, s8, s9, s10, s11, rfl⟩
    simp [d_law_r2]
    exact h
  rintro kk d ρ Kn hd ⟨s2, s3, s4, s5, s6, s7, s8, s9, s10, s11, rfl⟩ hK
  obtain ⟨hk, rfl⟩ := rngD_get hd
  have hk6 : kk < 6 := by simpa [rngD] using hk
  simp
  rw [show (33 : Int) * (kk : Int) = ((33 * kk : Nat) : Int) by omega, show ((33 * kk : Nat) : Int) + 33 = ((33 * kk + 33 : Nat) : Int) by omega, cut_ab (by omega) (by omega)]
  have hsl : ((out.drop (33 * kk)).take (33 * kk + 33 - 33 * kk)).length = 33 := by simp; omega
  refine ⟨(out.drop (33 * kk)).take (33 * kk + 33 - 33 * kk), 5, 4, rfl, fun z hz => hs z (List.mem_of_mem_drop (List.mem_of_mem_take hz)), by omega, by omega, by omega, by omega, by omega, by omega, fun t n g _ => ⟨_, rfl, ?_⟩⟩
  have n1 := g.n1
  have n5 := g.n5
  have o1 := g.o1
  have o4 := g.o4
  simp [d_law_r3]
  obtain ⟨op0, hop0⟩ : ∃ op0, t[0]? = some op0 := ⟨_, List.getElem?_eq_getElem (by omega)⟩
  have lop0 : op0.length = n := (g.op _ (List.mem_of_getElem? hop0)).1
  refine .inr ⟨_, tabD_map t, opI op0, by rw [List.getElem?_map, hop0]; rfl, ?_⟩
  rw [opI_map]
  simp [lop0]
  simp [d_law_r4]
  refine ⟨by omega, ?_⟩
  refine forW_inv (fun _ ρ => ∃ s5 s6 s7 s8 s9 s10 s11 : Slot, ρ = [.sh (scrD ns), .sh (.list (out.map .int)), .sh (.int kk), .sh (tabD t), .sh (.int n), s5, s6, s7, s8, s9, s10, s11]) ⟨_, _, _, _, _, _, _, rfl⟩ ?_ ?_
  · rintro ρ ⟨s5, s6, s7, s8, s9, s10, s11, rfl⟩
    have fin : ∀ off : Int, (off < 0 ∨ (n : Int) ≤ off) → d_law_r16 { nx := Kn, rt := R, ex := fun x _ => Xd x, bk := d_law_r2 { nx := fun _ => R (Slot.sh PyData.none), rt := R, ex := fun x _ => Xd x }, ct := Kn }
        [Slot.sh (scrD ns), .sh (.list (out.map .int)), .sh (.int kk), .sh (tabD t), .sh (.int n), s5, s6, s7, s8, s9, .sh (.int off), s11] := fun off ho => by
      have sd : Sd 8 (.tuple [.none, .str (Str.ofString "NoStand")]) := sd_no (by decide +kernel)
      simp [d_law_r16]
      refine ⟨t, n, off, g, rfl, fun _ => ⟨4, by simp [xn_law], _, trd_P (by decide +kernel), sd.shaped (by omega), sd.shaped (by omega), ?_⟩, fun k e1 e2 => by omega⟩
      rw [if_pos (PySem.SeqAt.eqv_refl _ sd.cl.1)]
      exact hK _ ⟨_, _, _, _, _, _, _, _, _, _, rfl⟩
    simp [d_law_r5]
    refine ⟨.int (out.getD 199 0), ⟨_, get 199 (by omega), rfl⟩, ?_⟩
    obtain ⟨v, ev, hv⟩ := mod_at (out.getD 199 0) (show 0 < 3 by omega)
    have ev' : out.getD 199 0 % 3 = (v : Int) := ev
    simp [-List.getD_eq_getElem?_getD]
    rw [ev']
    rcases (show v = 0 ∨ v = 1 ∨ v = 2 by omega) with rfl | rfl | rfl
    · exact ⟨_, rfl, fin _ (by omega)⟩
    · exact ⟨_, rfl, fin _ (by omega)⟩
    · exact ⟨_, rfl, fin _ (by omega)⟩
  rintro b d ρ Kb hd ⟨s5, s6, s7, s8, s9, s10, s11, rfl⟩ hKb
  obtain ⟨hk, rfl⟩ := rngD_get hd
  have hb : b < n := by simpa [rngD] using hk
  simp [d_law_r6]
  refine ⟨by omega, ?_⟩
  refine forW_inv (fun j ρ => ∃ (L : List Nat) (s7 s8 s11 : Slot), HL t n b L ∧ TuI t n j L ∧ ρ = [.sh (scrD ns), .sh (.list (out.map .int)), .sh (.int kk), .sh (tabD t), .sh (.int n), .sh (.int b), .sh (.list (L.map natD)), s7, s8, s9, s10, s11]) ⟨[b], s7, s8, s11, hl_start hb, .inr ?_, rfl⟩ ?_ ?_
  · have : cntL n [] + 1 ≤ cntL n [b] := cntL_new hb (fun x hx => nomatch hx) (by simp) (by simp)
    omega
  · rintro ρ ⟨L, s7, s8, s11, hL, iL, rfl⟩
    have iL : TuI t n n L := by simpa [rngD] using iL
    have cl := tu_done iL
    have l16 := hl_len hL n5
    have eL : L.map natD = (L.map fun m : Nat => (m : Int)).map PyData.int := by rw [List.map_map]; rfl
    simp [d_law_r7]
    refine ⟨t, n, b, g, rfl, fun z => by omega, fun k e1 e2 nsr p1 p2 => ?_⟩
    have e3 : k = b := by omega
    subst e3
    refine ⟨_, rfl, ?_⟩
    have lns : nsr.length ≤ 16 := by
      have := nd_len (rise_nd p1) (b := L.map fun m : Nat => (m : Int)) fun x hx => (hl_all hL cl x).mpr ((p2 x).mp hx)
      rw [List.length_map] at this
      omega
    have same : ∀ o2 : List Int, o2.Pairwise (· < ·) → (∀ x, x ∈ o2 ↔ x ∈ L.map fun m : Nat => (m : Int)) → o2 = nsr := fun o2 r1 r2 => rise_eq r1 p1 fun x => (r2 x).trans ((hl_all hL cl x).trans (p2 x).symm)
    have sdn : Sd 8 (.list (nsr.map .int)) := sd_intl (m := 7) (by omega)
    simp [d_law_r10]
    refine ⟨L.map fun m : Nat => (m : Int), eL, by simp; omega, fun o2 r1 r2 => ?_⟩
    obtain rfl := same o2 r1 r2
    refine same_of sdn ⟨_, rfl, rfl, ?_⟩
    simp
    simp [d_law_r11]
    refine ⟨by omega, ?_⟩
    simp [d_law_r13]
    refine ⟨t, n, k, g, rfl, fun z => by omega, fun k2 e1 e2 ns2 q1 q2 => ?_⟩
    have e3 : k2 = k := by omega
    subst e3
    obtain rfl := same ns2 q1 fun x => (q2 x).trans (hl_all hL cl x).symm
    refine ⟨_, rfl, L.map fun m : Nat => (m : Int), eL, by simp; omega, fun o3 r1 r2 => ?_⟩
    obtain rfl := same o3 r1 r2
    refine same_of sdn ⟨_, rfl, ?_⟩
    simp
    exact hKb _ ⟨_, _, _, _, _, _, _, rfl⟩
  · rintro j d ρ Kj hd ⟨L0, s7, s8, s11, hL0, iL0, rfl⟩ hKj
    simp
    rw [tabD_map]
    simp
    refine forW_inv (fun p ρ => ∃ (L : List Nat) (s8 s11 : Slot), HL t n b L ∧ TnI t n p L0 L ∧ (ClL t L0 → L = L0) ∧ ρ = [.sh (scrD ns), .sh (.list (out.map .int)), .sh (.int kk), .sh (tabD t), .sh (.int n), .sh (.int b), .sh (.list (L.map natD)), .sh d, s8, s9, s10, s11]) ⟨L0, s8, s11, hL0, .inl ⟨rfl, fun o ho => by omega⟩, fun _ => rfl, by rw [tabD_map]⟩ ?_ ?_
    · rintro ρ ⟨L, s8, s11, hL, iL, hc, rfl⟩
      exact hKj _ ⟨L, _, s8, s11, hL, tu_step g hL0 iL0 (by simpa using iL) hc, rfl⟩
    · rintro p e ρ Kp he ⟨L, s8, s11, hL, iL, hc, rfl⟩ hKp
      rw [List.getElem?_map] at he
      obtain ⟨op, q1, he⟩ := Option.map_eq_some_iff.mp he
      subst he
      have hp : p < t.length := (List.getElem?_eq_some_iff.mp q1).1
      have l16 := hl_len hL n5
      simp
      refine lcA_filM (fun s => !decide (nxA t p s ∈ L)) (fun s => natD (nxA t p s)) (by simp; omega) (fun s hs' Kx K0 e1 e0 => ?_) ?_
      · obtain ⟨hsn, _⟩ := hL.sub s hs'
        obtain ⟨op', f1, f2, f3, f4, f5, f6⟩ := rowAt_get g hp hsn
        rw [q1] at f1
        cases f1
        have ev : (rowAt t p s).2 = ((nxA t p s : Nat) : Int) := by unfold nxA; omega
        have e8 : (op.map fun q => PyData.tuple [.int q.1, .int q.2])[s]? = some (.tuple [.int (rowAt t p s).1, .int (nxA t p s)]) := by rw [List.getElem?_map, f3]; simp [ev]
        simp [opI_map, natD, e8, -List.getElem?_map]
        refine ⟨rfl, fun _ _ => rfl, ?_⟩
        rw [inD_nat]
        by_cases c : nxA t p s ∈ L
        · rw [if_pos (by simp [c])]
          exact e0 (by simpa using c)
        · rw [if_neg (by simp [c])]
          exact e1 (by simpa using c)
      · rw [List.nil_append]
        refine ⟨by simp; have := List.length_filter_le (fun s => !decide (nxA t p s ∈ L)) L; omega, ?_⟩
        obtain ⟨hL2, iL2⟩ := tn_step g hL hp iL
        refine hKp _ ⟨addH t p L, Slot.sh (opI op), s11, hL2, iL2, fun c => ?_, ?_⟩
        · have := hc c
          subst this
          exact addH_closed fun s hs => c s hs p hp
        · unfold addH
          rw [List.map_append, List.map_map]
          rfl
end WH
namespace WH
open PySem PySem.Spec L2
theorem obsA_eq {as : List Addr} {fa : List He.Fa} {fn : List He.DefD} {ts : List He.Tab} {tf : List He.Defn} {ex : PySem.W.Frag → Bool} (s : PySem.W.SharedT) : obsA as fa fn ts tf ex (HandSHeadRun.getT s) = (hookA as fa fn ts tf ex).obs s.abs := by
  have e : HandSHeadRun.getT s = s.abs.heap.get? := funext (HandSHeadRun.getT_eq s)
  rw [e]
  rfl
end WH
namespace WH
open PySem PySem.Spec L2 L2H
variable [TabC]
theorem fn_cx0G {P : Program} {w : World} {K : PySem.W.Frag} {mg : Str → Option Value} {base : Heap} {k : Nat} {f : Addr} {fd : FuncData} {ps : List Str} {sp : Sp} (F : LamX.FnOkG P w K mg base (L2N.CX P w) k f fd ps sp) : LamX.FnOkG P w K mg base CX0 k f fd ps (fun vs H Q _ => sp vs H Q fun _ _ _ => False) :=
  ⟨fun vs H Q E h => F.len _ _ _ _ h, fun A outer s H args us vs Q E hr hgd he hb hv hs => codeAny_mono (F.run A outer s H args us vs Q _ hr hgd he hb hv hs) fun r s' q => by
    cases r with
    | ok x => cases x <;> exact q
    | error e =>
      obtain ⟨a, B, H', cls, d, _, _, _, _, _, _, _, z⟩ := q
      exact z.elim⟩
section
variable {P : Program} {w : World} {K : PySem.W.Frag} {mg : Str → Option Value} {base : Heap}
theorem sc__law_called : FnScope n__law_called ["_law_e"] (defScope s__law_called) := ⟨rfl, rfl, rfl, by decide +kernel, rfl, by decide +kernel, by decide +kernel⟩
theorem ok__law_called {f : Addr} {fd : FuncData} (T : Bt mg) (F : FunD K "_law_called" "_law_called" (defArgs s__law_called) (defBody s__law_called) (defScope s__law_called) [] [] f fd) : HotFn P w K mg base 1 f fd ["_law_e"] (spCal K mg) := by
  refine fn_hot (k := 0) F sc__law_called (fun p vs H Q h => ?_) (fun cdv A outer s H vs Q p hot hr h => ?_)
  · obtain ⟨_, _, _, _, _, _, rfl, _⟩ := h
    rfl
  obtain ⟨G, fs, D, dd, nm, xs, rfl, gh, tb, hz, hf, hn, cf, hx, hd, hw, hq⟩ := h
  obtain ⟨a, oe⟩ := p
  have ep : ExP (cxH L2.CX0 P w K mg base n__law_called "_law_called" (defScope s__law_called) f cdv A outer s H L2.E0 (a, oe)) a oe D dd := ⟨List.mem_cons_self, hz, hf⟩
  have hc : HotC (cxH L2.CX0 P w K mg base n__law_called "_law_called" (defScope s__law_called) f cdv A outer s H L2.E0 (a, oe)) := ⟨(a, oe), hot, List.mem_cons_self⟩
  obtain ⟨C_BadTable, mc_BadTable, kc_BadTable⟩ := cf.k "BadTable" (by simp [callNames])
  obtain ⟨C_BadText, mc_BadText, kc_BadText⟩ := cf.k "BadText" (by simp [callNames])
  obtain ⟨C_BadChoice, mc_BadChoice, kc_BadChoice⟩ := cf.k "BadChoice" (by simp [callNames])
  obtain ⟨C_BadOrder, mc_BadOrder, kc_BadOrder⟩ := cf.k "BadOrder" (by simp [callNames])
  obtain ⟨C_BadMany, mc_BadMany, kc_BadMany⟩ := cf.k "BadMany" (by simp [callNames])
  obtain ⟨C_BadScheme, mc_BadScheme, kc_BadScheme⟩ := cf.k "BadScheme" (by simp [callNames])
  obtain ⟨C_BadWishes, mc_BadWishes, kc_BadWishes⟩ := cf.k "BadWishes" (by simp [callNames])
  obtain ⟨C_BadTurn, mc_BadTurn, kc_BadTurn⟩ := cf.k "BadTurn" (by simp [callNames])
  obtain ⟨C_Full, mc_Full, kc_Full⟩ := cf.k "Full" (by simp [callNames])
  obtain ⟨C_TooWide, mc_TooWide, kc_TooWide⟩ := cf.k "TooWide" (by simp [callNames])
  obtain ⟨C_NoScheme, mc_NoScheme, kc_NoScheme⟩ := cf.k "NoScheme" (by simp [callNames])
  obtain ⟨C_Ended, mc_Ended, kc_Ended⟩ := cf.k "Ended" (by simp [callNames])
  obtain ⟨C_Still, mc_Still, kc_Still⟩ := cf.k "Still" (by simp [callNames])
  obtain ⟨C_Busy, mc_Busy, kc_Busy⟩ := cf.k "Busy" (by simp [callNames])
  obtain ⟨C_Idle, mc_Idle, kc_Idle⟩ := cf.k "Idle" (by simp [callNames])
  obtain ⟨C_Undone, mc_Undone, kc_Undone⟩ := cf.k "Undone" (by simp [callNames])
  obtain ⟨C_NoStand, mc_NoStand, kc_NoStand⟩ := cf.k "NoStand" (by simp [callNames])
  obtain ⟨C_NoOperation, mc_NoOperation, kc_NoOperation⟩ := cf.k "NoOperation" (by simp [callNames])
  obtain ⟨C_NoHand, mc_NoHand, kc_NoHand⟩ := cf.k "NoHand" (by simp [callNames])
  obtain ⟨C_NothingLeft, mc_NothingLeft, kc_NothingLeft⟩ := cf.k "NothingLeft" (by simp [callNames])
  have der : QSs (cxH L2.CX0 P w K mg base n__law_called "_law_called" (defScope s__law_called) f cdv A outer s H L2.E0 (a, oe)) (W0 mg) (defBody s__law_called) (d__law_called a dd nm) :=
    (qss_cons (qs_set (i := 1) sc__law_called.nd (qo_lst (qa_cons (qe_isX cf.C ep T.isinstance_ mc_BadTable kc_BadTable) (qa_cons (qe_isX cf.C ep T.isinstance_ mc_BadText kc_BadText) (qa_cons (qe_isX cf.C ep T.isinstance_ mc_BadChoice kc_BadChoice) (qa_cons (qe_isX cf.C ep T.isinstance_ mc_BadOrder kc_BadOrder) qa_nil))))).qe)
  (qss_cons (qs_set (i := 1) sc__law_called.nd (qe_add (qe_var 1) (qo_lst (qa_cons (qe_isX cf.C ep T.isinstance_ mc_BadMany kc_BadMany) (qa_cons (qe_isX cf.C ep T.isinstance_ mc_BadScheme kc_BadScheme) (qa_cons (qe_isX cf.C ep T.isinstance_ mc_BadWishes kc_BadWishes) (qa_cons (qe_isX cf.C ep T.isinstance_ mc_BadTurn kc_BadTurn) qa_nil))))).qe))
  (qss_cons (qs_set (i := 1) sc__law_called.nd (qe_add (qe_var 1) (qo_lst (qa_cons (qe_isX cf.C ep T.isinstance_ mc_Full kc_Full) (qa_cons (qe_isX cf.C ep T.isinstance_ mc_TooWide kc_TooWide) qa_nil))).qe))
  (qss_cons (qs_set (i := 1) sc__law_called.nd (qe_add (qe_var 1) (qo_lst (qa_cons (qe_isX cf.C ep T.isinstance_ mc_NoScheme kc_NoScheme) (qa_cons (qe_isX cf.C ep T.isinstance_ mc_Ended kc_Ended) (qa_cons (qe_isX cf.C ep T.isinstance_ mc_Still kc_Still) (qa_cons (qe_isX cf.C ep T.isinstance_ mc_Busy kc_Busy) qa_nil))))).qe))
  (qss_cons (qs_set (i := 1) sc__law_called.nd (qe_add (qe_var 1) (qo_lst (qa_cons (qe_isX cf.C ep T.isinstance_ mc_Idle kc_Idle) (qa_cons (qe_isX cf.C ep T.isinstance_ mc_Undone kc_Undone) (qa_cons (qe_isX cf.C ep T.isinstance_ mc_NoStand kc_NoStand) (qa_cons (qe_isX cf.C ep T.isinstance_ mc_NoOperation kc_NoOperation) qa_nil))))).qe))
  (qss_cons (qs_set (i := 1) sc__law_called.nd (qe_add (qe_var 1) (qo_lst (qa_cons (qe_isX cf.C ep T.isinstance_ mc_NoHand kc_NoHand) (qa_cons (qe_isX cf.C ep T.isinstance_ mc_NothingLeft kc_NothingLeft) qa_nil))).qe))
  (qss_cons (qs_set (i := 2) sc__law_called.nd qe_str)
  (qss_cons (qs_set (i := 2) sc__law_called.nd (qe_add (qe_var 2) qe_str))
  (qss_cons (qs_set (i := 2) sc__law_called.nd (qe_add (qe_var 2) qe_str))
  (qss_cons (qs_set (i := 3) sc__law_called.nd (qe_join qe_str (qo_lcH (own := [("_law_name", 4), ("_law_here", 5)]) hc sc__law_called.nd (qi_zipH T.zip_ (qo_split (qe_var 2) qe_str).qe (qe_var 1)) (blkOk_by (N := n__law_called) (sc := defScope s__law_called) (by decide +kernel)) (fun _ _ _ _ _ => (qg_tupH (by exact hc) (qgs_cons (qg_name (i := 4) sc__law_called.nd) (qgs_cons (qg_name (i := 5) sc__law_called.nd) qgs_nil)))) (fun _ _ _ _ _ => (qts_one (qt_val (qe_var 5)))) (fun _ _ _ _ _ => (qe_var 4))).qc))
  (qss_one (qs_ret (qe_if (qt_eq (unitsH hr) (qe_xf cf.T (cf.n _ (by simp)) ep) (qe_var 3)) (qe_var 3) (qe_add (qe_var 3) qe_str))))))))))))))
  refine ⟨_, der, G, H, G, _, { nx := fun _ => False, rt := fun s => s = .sh (.str nm), ex := fun _ _ => False }, ok_startX gh tb hx hd sameNil, p__law_called a dd hn hw, fun _ _ _ _ _ z => z.elim, fun s v H' r e => ?_, fun _ _ _ _ _ z => z.elim, fun _ _ _ _ _ z => z.elim, fun _ _ _ _ _ _ _ _ _ z => z.elim⟩
  subst e
  exact hq v H' r
def n__law_tried : List Str := ["_law_ask", "_law_told", "_law_word", "_law_e"]
theorem sc__law_tried : FnScope n__law_tried ["_law_ask"] (defScope s__law_tried) := ⟨rfl, rfl, rfl, by decide +kernel, rfl, by decide +kernel, by decide +kernel⟩
theorem gives__law_tried {X : Cx} {g fC : Addr} {fdC : FuncData} {cdv : Value} {q : Str} {k : Nat} {c1 c2 c3 c4 c5 c6 c7 c8 c9 : Value} {xn : List (Str × Nat)} (T : Bt X.mg) (m1 : X.mg "BadTable" = some c1) (m2 : X.mg "BadText" = some c2) (m3 : X.mg "Undone" = some c3) (m4 : X.mg "BadScheme" = some c4) (m5 : X.mg "TooWide" = some c5) (m6 : X.mg "NoScheme" = some c6) (m7 : X.mg "HandError" = some c7) (m8 : X.mg "Missing" = some c8) (m9 : X.mg "NothingLeft" = some c9)
    (hx : ∀ nm c, (nm, c) ∈ xn → ∃ D, X.mg nm = some (.ref D) ∧ TrF X.K X.mg [[c1, c2, c3], [c4], [c5], [c6], [c7, c8, c9]] nm D c) (F : HotFn X.prog X.w X.K X.mg X.base 1 fC fdC ["_law_e"] (spCal X.K X.mg)) (hmC : X.mg "_law_called" = some (.ref fC)) (hkC : PySem.W.keepIn X.K (.ref fC) = true) (hbC : Binds X.K fdC ["_law_e"] []) (hgd : X.A.guards = some []) :
    GivesN X n__law_tried "_law_tried" (defScope s__law_tried) g cdv (defBody s__law_tried) "_law_ask" q k (TTr X.K X.mg xn) := by
  intro f c' s H Q tl hr act hc htt
  obtain ⟨E, hE, htl⟩ := htt
  have der : PSs (cxOf L2.CX0 X.prog X.w X.K X.mg X.base n__law_tried "_law_tried" (defScope s__law_tried) g cdv X.A X.stack s H L2.E0) (defBody s__law_tried) _ := pss_cons (ps_asg (pe_tupN (pa_cons pe_non (pa_cons pe_str pa_nil))) (pg_tup rfl (pgs_cons (pg_name (i := 1) sc__law_tried.nd rfl (Or.inl rfl)) (pgs_cons (pg_name (i := 2) sc__law_tried.nd rfl (Or.inl rfl)) pgs_nil))) rfl rfl rfl)
    (pss_cons (ps_tryA (n := "_law_e") (i := 3) rfl rfl sc__law_tried.nd rfl rfl (fun V pn xe tk _ => pss_one (ps_set (i := 1) sc__law_tried.nd rfl (Or.inl rfl) (pe_ask (tl := tl) (act V pn xe · _ _ tk)))) (.cons (tst3 m1 m2 m3 rfl rfl rfl (by decide) (by decide) (by decide)) (fun a oe cls d pn hz hf => tsd (K := X.K) (mg := X.mg) (a := a) (d1 := suN "at") hz fun D dd nm hz hn cf => (qss_one (qs_set (i := 2) sc__law_tried.nd (qe_add (qe_add (qe_called (X := (cxOf L2.CX0 X.prog X.w X.K X.mg X.base n__law_tried "_law_tried" (defScope s__law_tried) g cdv X.A X.stack s H L2.E0)) (a := a) (oe := oe) (pn := pn) F (roomMk (hr.mono (by omega)) _) hz hf cf hn hmC hkC hbC) qe_str) (qe_repr T.repr_ (qe_xf cf.T (cf.n _ (by simp)) (suite_ep hz hf))))))) (.cons (tst1 m4 rfl (by decide)) (fun a oe cls d pn hz hf => tsd (K := X.K) (mg := X.mg) (a := a) (d1 := suL) hz fun D dd nm hz hn cf => (qss_one (qs_set (i := 2) sc__law_tried.nd (qe_add (qe_add (qe_called (X := (cxOf L2.CX0 X.prog X.w X.K X.mg X.base n__law_tried "_law_tried" (defScope s__law_tried) g cdv X.A X.stack s H L2.E0)) (a := a) (oe := oe) (pn := pn) F (roomMk (hr.mono (by omega)) _) hz hf cf hn hmC hkC hbC) qe_str) (qe_reprL hgd (rmH64 (roomMk (k := 0) (hr.mono (by omega)) _)) T.repr_ (QO.qe (qo_lst (qa_cons (qe_xf cf.T (cf.n _ (by simp)) (suite_ep hz hf)) (qa_cons (qe_xf cf.T (cf.n _ (by simp)) (suite_ep hz hf)) qa_nil))))))))) (.cons (tst1 m5 rfl (by decide)) (fun a oe cls d pn hz hf => tsd (K := X.K) (mg := X.mg) (a := a) (d1 := suN "most") hz fun D dd nm hz hn cf => (qss_one (qs_set (i := 2) sc__law_tried.nd (qe_add (qe_add (qe_called (X := (cxOf L2.CX0 X.prog X.w X.K X.mg X.base n__law_tried "_law_tried" (defScope s__law_tried) g cdv X.A X.stack s H L2.E0)) (a := a) (oe := oe) (pn := pn) F (roomMk (hr.mono (by omega)) _) hz hf cf hn hmC hkC hbC) qe_str) (qe_repr T.repr_ (qe_xf cf.T (cf.n _ (by simp)) (suite_ep hz hf))))))) (.cons (tst1 m6 rfl (by decide)) (fun a oe cls d pn hz hf => tsd (K := X.K) (mg := X.mg) (a := a) (d1 := suN "level") hz fun D dd nm hz hn cf => (qss_one (qs_set (i := 2) sc__law_tried.nd (qe_add (qe_add (qe_called (X := (cxOf L2.CX0 X.prog X.w X.K X.mg X.base n__law_tried "_law_tried" (defScope s__law_tried) g cdv X.A X.stack s H L2.E0)) (a := a) (oe := oe) (pn := pn) F (roomMk (hr.mono (by omega)) _) hz hf cf hn hmC hkC hbC) qe_str) (qe_repr T.repr_ (qe_xf cf.T (cf.n _ (by simp)) (suite_ep hz hf))))))) (.cons (tst3 m7 m8 m9 rfl rfl rfl (by decide) (by decide) (by decide)) (fun a oe cls d pn hz hf => tsd (K := X.K) (mg := X.mg) (a := a) (d1 := suP) hz fun D dd nm hz hn cf => (qss_one (qs_set (i := 2) sc__law_tried.nd (qe_called (X := (cxOf L2.CX0 X.prog X.w X.K X.mg X.base n__law_tried "_law_tried" (defScope s__law_tried) g cdv X.A X.stack s H L2.E0)) (a := a) (oe := oe) (pn := pn) F (roomMk (hr.mono (by omega)) _) hz hf cf hn hmC hkC hbC)))) .nil))))))
    (pss_one (ps_ret (pe_tupN (pa_cons (pv 1) (pa_cons (pv 2) pa_nil))))))
  refine ⟨_, der, ?_⟩
  refine ⟨by show 2 ≤ sizeLine; decide, fun p0 its0 hp0 => ⟨p0, _, rfl, (SqN.new upd_same).t, rfl, _, _, rfl, _, _, rfl, rfl, ?_⟩⟩
  refine ⟨E, _, rfl, by rw [upd_ne fun z => by rw [z, hp0] at hc; cases hc]; exact hc, fun cls d H' z => wall_of hx (hE cls d H' z) (fun _ => sameNil), htl p0 its0 hp0, fun v H' hv => ?_⟩
  exact ⟨v, rfl, _, rfl, by show 2 ≤ sizeLine; decide, hv⟩
def TrK (P : Program) (w : World) (K : PySem.W.Frag) (mg : Str → Option Value) (base : Heap) (xn : List (Str × Nat)) : Prop := ∃ g fd, FunD K "_law_tried" "_law_tried" (defArgs s__law_tried) (defBody s__law_tried) (defScope s__law_tried) [] [] g fd ∧ mg "_law_tried" = some (.ref g) ∧ Binds K fd ["_law_ask"] [] ∧
  ∀ (X : Cx), X.prog = P → X.w = w → X.K = K → X.mg = mg → X.base = base → X.A.guards = some [] → ∀ k cdv q, GivesN X n__law_tried "_law_tried" (defScope s__law_tried) g cdv (defBody s__law_tried) "_law_ask" q k (TTr X.K X.mg xn)
theorem qe_tr [ObjB] {X : Cx} {W : XW} {k m : Nat} {xn : List (Str × Nat)} {params : Arguments} {body : Expr} {scope : Scope} {db : DE} {p lpos pos : Pos} (tr : TrK X.prog X.w X.K X.mg X.base xn) (TX : TabX X) (hr : Room m X.A) (hgd : X.A.guards = some []) (hk : k + 2 ≤ m)
    (hbody : ∀ (A : Around) (outer : List Env) (s : Shared) (H : Hp) (E : XK) (f c' : Addr), Room k (A.deeper (LamX.lamEnv X scope s.heap.objs.size f c')) → QE (lamN X A outer s H E scope f c') (WF X.mg E) body db)
    (L : LamX.LamS X.env.scope scope := by exact LamX.lamS_by (by decide +kernel)) (hdef : defaultsOf params X.env = ([], []) := by rfl)
    (hbind : ∀ (q : Str) (cl : List (Str × Addr)) (pm cv ctv : Value), bindArgs (PySem.W.kla_fn "<lambda>" q params body scope cl pm cv ctv) ⟨[], []⟩ = pure [] := by intro _ _ _ _ _; rfl) (hg : Gl X "_law_tried" := by rfl) :
    QE X W (.Call (.Name "_law_tried" p) [.Lambda params body scope lpos] [] pos) (dTried xn db) := by
  obtain ⟨g, fd, F, hm, hb, hG⟩ := tr
  exact qe_tried (k := k) F hm hb sc__law_tried rfl (.inl rfl) (fun cdv q => hG X rfl rfl rfl rfl rfl hgd k cdv q) TX hr hk hbody L hdef hbind hg
theorem sci_NoStand : FnScope ["self", "told"] ["self", "told"] (defScope i_NoStand) := ⟨rfl, rfl, rfl, by decide +kernel, rfl, by decide +kernel, by decide +kernel⟩
theorem rs_NoStand {fd : FuncData} (c : XC K "NoStand" ["word"]) (F : FunD K "__init__" "NoStand.__init__" (defArgs i_NoStand) (defBody i_NoStand) (defScope i_NoStand) [.str ""] [] (He.ma K (He.ga K "NoStand") "__init__") fd) (hm : mg "NoStand" = some (.ref (He.ga K "NoStand"))) : Rs P w K mg base "NoStand" 2 1 (xfV "NoStand" []) := by
  obtain ⟨ds, hds, hb⟩ := F.binds1 (ps := ["self", "told"]) 2 1 (by simp) rfl fun _ _ _ _ _ _ _ us its hl hi => match us, its, hl, hi with | [_, _], [_], _, _ => ⟨_, rfl, rfl⟩
  cases hds
  refine rs_ve (ps := ["self", "told"]) c.o c.i c.t (F.ok (k := 0) sci_NoStand (fun vs H Q E h => ?_) (fun cdv A outer s H vs Q E hr h => ⟨_, (pss_one (ps_osg (pv 0) pe_str)), ?_⟩)) hb hm
  · obtain ⟨a, ws, rfl, hl, _⟩ := h
    simp [hl]
  · obtain ⟨a, ws, rfl, hl, ha, hq⟩ := h
    match ws, hl with
    | [v1], _ =>
      refine ⟨_, rfl, a, He.ga K "NoStand", rfl, c.o, c.n _ (by simp), .inl ⟨ha, fun dx d1 d2 => ?_⟩⟩
      exact hq dx d1 d2
theorem sci_BadTable : FnScope ["self", "at"] ["self", "at"] (defScope i_BadTable) := ⟨rfl, rfl, rfl, by decide +kernel, rfl, by decide +kernel, by decide +kernel⟩
theorem rs_BadTable {fd : FuncData} (c : XC K "BadTable" ["word", "at"]) (F : FunD K "__init__" "BadTable.__init__" (defArgs i_BadTable) (defBody i_BadTable) (defScope i_BadTable) [] [] (He.ma K (He.ga K "BadTable") "__init__") fd) (hm : mg "BadTable" = some (.ref (He.ga K "BadTable"))) : Rs P w K mg base "BadTable" 2 1 (xfV "BadTable" ["at"]) := by
  refine rs_ve (ps := ["self", "at"]) c.o c.i c.t (F.ok (k := 0) sci_BadTable (fun vs H Q E h => ?_) (fun cdv A outer s H vs Q E hr h => ⟨_, (pss_cons (ps_osg (pv 0) pe_str) (pss_one (ps_osg (pv 0) (pv 1)))), ?_⟩)) (F.bindsN (ps := ["self", "at"]) fun _ _ _ _ _ _ us hl => match us, hl with | [_, _], _ => rfl) hm
  · obtain ⟨a, ws, rfl, hl, _⟩ := h
    simp [hl]
  · obtain ⟨a, ws, rfl, hl, ha, hq⟩ := h
    match ws, hl with
    | [v1], _ =>
      refine ⟨_, rfl, a, He.ga K "BadTable", rfl, c.o, c.n _ (by simp), .inl ⟨ha, fun dx d1 d2 => ?_⟩⟩
      refine ⟨_, rfl, _, rfl, a, He.ga K "BadTable", rfl, c.o, c.n _ (by simp), .inr ⟨dx, _, upd_same, (upd_ne d2).trans upd_same, ?_, ?_⟩⟩
      · simp
      rw [upd_swap d2]
      exact hq dx d1 d2
theorem sc_is_whole : FnScope n_is_whole ["thing", "low", "high"] (defScope s_is_whole) := ⟨rfl, rfl, rfl, by decide +kernel, rfl, by decide +kernel, by decide +kernel⟩
theorem ok_is_whole   (T : Bt mg)       (F : FnP K mg "is_whole" s_is_whole) : Cl P w K mg base "is_whole" 1 c_is_whole := by
  obtain ⟨f, fd, F, gm⟩ := F
  refine ⟨["thing", "low", "high"], f, fd, gm, F.kp, F.bindsN (ps := ["thing", "low", "high"]) fun _ _ _ _ _ _ us hl => match us, hl with | [_, _, _], _ => rfl, fn_ok (db := d_is_whole) F sc_is_whole l_is_whole (fun cdv A outer s H E hr => ?_) p_is_whole⟩
  have tk := L2N.takes_of (X := cxOf (L2N.CX P w) P w K mg base n_is_whole "is_whole" (defScope s_is_whole) f cdv A outer s H E) (E := E) rfl rfl rfl rfl
  exact (qss_one (qs_ret (qe_and (qe_isi (T := "int") rfl T.isinstance_ T.int_ (by decide +kernel) (qe_var 0)) (qe_and (qe_not (qe_isi (T := "bool") rfl T.isinstance_ T.bool_ (by decide +kernel) (qe_var 0))) (qe_one (qe_chain le_E le_E op_le op_le (qe_var 1) (qe_var 0) (qe_var 2)))))))
theorem sc_is_operation : FnScope n_is_operation ["rows", "many"] (defScope s_is_operation) := ⟨rfl, rfl, rfl, by decide +kernel, rfl, by decide +kernel, by decide +kernel⟩
theorem ok_is_operation   (T : Bt mg) (k_is_whole : Cl P w K mg base "is_whole" 1 c_is_whole) (c_MOST_STANDS : GI mg "MOST_STANDS" 5)     (F : FnP K mg "is_operation" s_is_operation) : Cl P w K mg base "is_operation" 2 c_is_operation := by
  obtain ⟨f, fd, F, gm⟩ := F
  refine ⟨["rows", "many"], f, fd, gm, F.kp, F.bindsN (ps := ["rows", "many"]) fun _ _ _ _ _ _ us hl => match us, hl with | [_, _], _ => rfl, fn_ok (db := d_is_operation) F sc_is_operation l_is_operation (fun cdv A outer s H E hr => ?_) p_is_operation⟩
  have tk := L2N.takes_of (X := cxOf (L2N.CX P w) P w K mg base n_is_operation "is_operation" (defScope s_is_operation) f cdv A outer s H E) (E := E) rfl rfl rfl rfl
  exact (qss_cons (qs_if (qw_or (qt_not (qt_chain le_E le_E op_le op_le qe_int (qe_var 1) (qe_gi c_MOST_STANDS))) (qw_or1 (qt_ne hr.units (qe_len T.len_ (qe_var 0)) (qe_var 1)))).qt
  (qss_one (qs_ret qe_bl))
  qss_nil)
  (qss_one (qs_ret (qe_all rfl T.all_ (qo_lc (own := [("answer", 2), ("later", 3)]) rfl sc_is_operation.nd (qi_e (qe_var 0)) (blkOk_by (N := n_is_operation) (sc := defScope s_is_operation) (by decide +kernel)) (fun _ _ _ _ _ => (qg_tup rfl (qgs_cons (qg_name (i := 2) sc_is_operation.nd) (qgs_cons (qg_name (i := 3) sc_is_operation.nd) qgs_nil)))) (fun _ _ _ _ _ => qts_nil) (fun _ _ _ _ _ => (qe_and (qe_cl k_is_whole hr (by omega) takesN rfl (qa_cons (qe_var 2) (qa_cons qe_int (qa_cons qe_int qa_nil)))) (qe_one (qe_cl k_is_whole hr (by omega) takesN rfl (qa_cons (qe_var 3) (qa_cons qe_int (qa_cons (qe_sub (qe_var 1) qe_int) qa_nil)))))))).qc))))
theorem sc_look_table : FnScope n_look_table ["table"] (defScope s_look_table) := ⟨rfl, rfl, rfl, by decide +kernel, rfl, by decide +kernel, by decide +kernel⟩
theorem ok_look_table   (T : Bt mg) (k_is_operation : Cl P w K mg base "is_operation" 2 c_is_operation) (c_MOST_OPERATIONS : GI mg "MOST_OPERATIONS" 4)   (r_BadTable : Rs P w K mg base "BadTable" 2 1 (xfV "BadTable" ["at"]))  (F : FnP K mg "look_table" s_look_table) : Cl P w K mg base "look_table" 3 c_look_table := by
  obtain ⟨f, fd, F, gm⟩ := F
  refine ⟨["table"], f, fd, gm, F.kp, F.bindsN (ps := ["table"]) fun _ _ _ _ _ _ us hl => match us, hl with | [_], _ => rfl, fn_ok (db := d_look_table) F sc_look_table l_look_table (fun cdv A outer s H E hr => ?_) p_look_table⟩
  have tk := L2N.takes_of (X := cxOf (L2N.CX P w) P w K mg base n_look_table "look_table" (defScope s_look_table) f cdv A outer s H E) (E := E) rfl rfl rfl rfl
  exact (qss_cons (qs_if (qt_eq hr.units (qe_len T.len_ (qe_var 0)) qe_int)
  (qss_one (qs_raise r_BadTable hr (by omega) tk rfl (xf_ok "BadTable" ["at"] 1) (by decide) (qa_cons qe_int qa_nil)))
  qss_nil)
  (qss_cons (qs_set (i := 1) sc_look_table.nd (qe_len T.len_ (qe_ix (qc_var 0) qe_int)))
  (qss_one (qs_for (L2.passes_of rfl) rfl (qi_enum T.enumerate_ (qe_var 0)) (qg_tup rfl (qgs_cons (qg_name (i := 2) sc_look_table.nd) (qgs_cons (qg_name (i := 3) sc_look_table.nd) qgs_nil)))
  (qss_one (qs_if (qw_or (qt_ge (qe_var 2) (qe_gi c_MOST_OPERATIONS)) (qw_or1 (qt_not (qt_val (qe_cl k_is_operation hr (by omega) tk rfl (qa_cons (qe_var 3) (qa_cons (qe_var 1) qa_nil))))))).qt
  (qss_one (qs_raise r_BadTable hr (by omega) tk rfl (xf_ok "BadTable" ["at"] 1) (by decide) (qa_cons (qe_var 2) qa_nil)))
  qss_nil))))))
theorem sc_look_stand : FnScope n_look_stand ["table", "stand"] (defScope s_look_stand) := ⟨rfl, rfl, rfl, by decide +kernel, rfl, by decide +kernel, by decide +kernel⟩
theorem ok_look_stand   (T : Bt mg) (k_look_table : Cl P w K mg base "look_table" 3 c_look_table)    (r_NoStand : Rs P w K mg base "NoStand" 2 1 (xfV "NoStand" []))  (F : FnP K mg "look_stand" s_look_stand) : Cl P w K mg base "look_stand" 4 c_look_stand := by
  obtain ⟨f, fd, F, gm⟩ := F
  refine ⟨["table", "stand"], f, fd, gm, F.kp, F.bindsN (ps := ["table", "stand"]) fun _ _ _ _ _ _ us hl => match us, hl with | [_, _], _ => rfl, fn_ok (db := d_look_stand) F sc_look_stand l_look_stand (fun cdv A outer s H E hr => ?_) p_look_stand⟩
  have tk := L2N.takes_of (X := cxOf (L2N.CX P w) P w K mg base n_look_stand "look_stand" (defScope s_look_stand) f cdv A outer s H E) (E := E) rfl rfl rfl rfl
  exact (qss_cons (qs_expr (qe_cl k_look_table hr (by omega) tk rfl (qa_cons (qe_var 0) qa_nil)))
  (qss_one (qs_if (qt_not (qt_chain le_E lt_E op_le op_lt qe_int (qe_var 1) (qe_len T.len_ (qe_ix (qc_var 0) qe_int))))
  (qss_one (qs_raise r_NoStand hr (by omega) tk rfl (xf_ok "NoStand" [] 1) (by decide) (qa_cons qe_str qa_nil)))
  qss_nil)))
theorem sc_reached : FnScope n_reached ["table", "stand"] (defScope s_reached) := ⟨rfl, rfl, rfl, by decide +kernel, rfl, by decide +kernel, by decide +kernel⟩
theorem ok_reached   (hsf : SetF w) (T : Bt mg) (k_look_stand : Cl P w K mg base "look_stand" 4 c_look_stand)      (F : FnP K mg "reached" s_reached) : Cl P w K mg base "reached" 5 c_reached := by
  obtain ⟨f, fd, F, gm⟩ := F
  refine ⟨["table", "stand"], f, fd, gm, F.kp, F.bindsN (ps := ["table", "stand"]) fun _ _ _ _ _ _ us hl => match us, hl with | [_, _], _ => rfl, fn_okCK (db := d_reached) F sc_reached l_reached (fun A outer s H E hkd hr => ?_) p_reached⟩
  have tk := L2N.takes_of (X := cxOf (L2N.CX P w) P w K mg base n_reached "reached" (defScope s_reached) f fd.code A outer s H E) (E := E) rfl rfl rfl rfl
  exact (qss_cons (qs_expr (qe_cl k_look_stand hr (by omega) tk rfl (qa_cons (qe_var 0) (qa_cons (qe_var 1) qa_nil))))
  (qss_cons (qs_setO (i := 2) sc_reached.nd (qo_set1 (i := 1) hsf hkd))
  (qss_cons (qs_setO (i := 3) sc_reached.nd (qo_lst (qa_cons (qe_var 1) qa_nil)))
  (qss_cons (qs_while (L2.passes_of rfl) (qt_lend 3 (qt_ne hr.units (qe_var 3) (qo_lst qa_nil).qe))
  (qss_cons (qs_pop (i := 3) (j := 4) sc_reached.nd (pe_bm0 PySem.F.plainAttrs_list PySem.F.slot_list_pop PySem.F.type_list_pop mt_pop (pv 3)))
  (qss_one (qs_for (L2.passes_of rfl) rfl (qi_e (qe_var 0)) (qg_name (i := 5) sc_reached.nd)
  (qss_cons (qs_set (i := 6) sc_reached.nd (qe_ix (qe_ix (qc_var 5) (qe_var 4)).qc qe_int))
  (qss_one (qs_if (qt_setNI (i := 2) hsf (qe_var 6))
  (qss_cons (qs_sadd (i := 2) hsf (qe_var 6) (pv 2))
  (qss_one (qs_app (i := 3) (qe_var 6) (hp := pe_bm PySem.F.plainAttrs_list PySem.F.slot_list_append PySem.F.type_list_append mt_append (pv 3) (pa_cons (qe_var 6) pa_nil)))))
  qss_nil)))))))
  (qss_one (qs_retO (qo_srtN (i := 2) hsf rfl T.sorted_)))))))
theorem sc__law_numbers : FnScope n__law_numbers ["_law_script", "_law_many"] (defScope s__law_numbers) := ⟨rfl, rfl, rfl, by decide +kernel, rfl, by decide +kernel, by decide +kernel⟩
theorem ok__law_numbers   (T : Bt mg)       (F : FnP K mg "_law_numbers" s__law_numbers) : Cl P w K mg base "_law_numbers" 1 c__law_numbers := by
  obtain ⟨f, fd, F, gm⟩ := F
  refine ⟨["_law_script", "_law_many"], f, fd, gm, F.kp, F.bindsN (ps := ["_law_script", "_law_many"]) fun _ _ _ _ _ _ us hl => match us, hl with | [_, _], _ => rfl, fn_ok (db := d__law_numbers) F sc__law_numbers l__law_numbers (fun cdv A outer s H E hr => ?_) p__law_numbers⟩
  have tk := L2N.takes_of (X := cxOf (L2N.CX P w) P w K mg base n__law_numbers "_law_numbers" (defScope s__law_numbers) f cdv A outer s H E) (E := E) rfl rfl rfl rfl
  exact (qss_cons (qs_setO (i := 2) sc__law_numbers.nd (qo_lst qa_nil))
  (qss_cons (qs_set (i := 3) sc__law_numbers.nd qe_int)
  (qss_cons (qs_for (L2.passes_of rfl) rfl (qi_e (qe_scr 0)) (qg_name (i := 4) sc__law_numbers.nd)
  (qss_cons (qs_set (i := 3) sc__law_numbers.nd (qe_mod (qe_add (qe_add (qe_mul (qe_var 3) qe_int) (qe_mod (qe_var 4) qe_int)) qe_int) qe_int))
  (qss_cons (qs_set (i := 5) sc__law_numbers.nd (qe_sub (qe_var 4) (qe_pow qe_int qe_int)))
  (qss_cons (qs_if (qt_lt (qe_var 5) qe_int)
  (qss_one (qs_app (i := 2) (qe_mod (qe_var 4) qe_int) (hp := pe_bm PySem.F.plainAttrs_list PySem.F.slot_list_append PySem.F.type_list_append mt_append (pv 2) (pa_cons (qe_mod (qe_var 4) qe_int) pa_nil))))
  qss_nil)
  (qss_one (qs_for (L2.passes_of rfl) rfl (qi_range1 T.range_ qe_int) (qg_name (i := 6) sc__law_numbers.nd)
  (qss_one (qs_if (qt_gt (qe_var 5) qe_int)
  (qss_cons (qs_app (i := 2) (qe_mod (qe_var 5) qe_int) (hp := pe_bm PySem.F.plainAttrs_list PySem.F.slot_list_append PySem.F.type_list_append mt_append (pv 2) (pa_cons (qe_mod (qe_var 5) qe_int) pa_nil)))
  (qss_one (qs_set (i := 5) sc__law_numbers.nd (qe_fdiv (qe_var 5) qe_int))))
  qss_nil))))))))
  (qss_cons (qs_while (L2.passes_of rfl) (qt_lt (qe_lenC T.len_ (qc_var 2)) (qe_var 1))
  (qss_cons (qs_set (i := 3) sc__law_numbers.nd (qe_mod (qe_add (qe_add (qe_add (qe_mul (qe_var 3) (qe_var 3)) (qe_mul qe_int (qe_var 3))) (qe_mul qe_int (qe_lenC T.len_ (qc_var 2)))) qe_int) qe_int))
  (qss_one (qs_app (i := 2) (qe_mod (qe_fdiv (qe_var 3) qe_int) qe_int) (hp := pe_bm PySem.F.plainAttrs_list PySem.F.slot_list_append PySem.F.type_list_append mt_append (pv 2) (pa_cons (qe_mod (qe_fdiv (qe_var 3) qe_int) qe_int) pa_nil))))))
  (qss_one (qs_ret (qe_slice (qc_var 2) qp_none (qp_some (qe_var 1)))))))))
theorem sc__law_known : FnScope n__law_known ["_law_d"] (defScope s__law_known) := ⟨rfl, rfl, rfl, by decide +kernel, rfl, by decide +kernel, by decide +kernel⟩
theorem ok__law_known   (T : Bt mg)       (F : FnP K mg "_law_known" s__law_known) : Cl P w K mg base "_law_known" 1 c__law_known := by
  obtain ⟨f, fd, F, gm⟩ := F
  refine ⟨["_law_d"], f, fd, gm, F.kp, F.bindsN (ps := ["_law_d"]) fun _ _ _ _ _ _ us hl => match us, hl with | [_], _ => rfl, fn_ok (db := d__law_known) F sc__law_known l__law_known (fun cdv A outer s H E hr => ?_) p__law_known⟩
  have tk := L2N.takes_of (X := cxOf (L2N.CX P w) P w K mg base n__law_known "_law_known" (defScope s__law_known) f cdv A outer s H E) (E := E) rfl rfl rfl rfl
  exact (qss_cons (qs_set (i := 1) sc__law_known.nd (qo_lst (qa_cons (qe_tup (qa_cons (qe_tup (qa_cons (qe_tup (qa_cons qe_int (qa_cons qe_int qa_nil))) (qa_cons (qe_tup (qa_cons qe_int (qa_cons qe_int qa_nil))) qa_nil))) qa_nil)) (qa_cons (qe_tup (qa_cons (qe_tup (qa_cons (qe_tup (qa_cons qe_int (qa_cons qe_int qa_nil))) (qa_cons (qe_tup (qa_cons qe_int (qa_cons qe_int qa_nil))) (qa_cons (qe_tup (qa_cons qe_int (qa_cons qe_int qa_nil))) qa_nil)))) (qa_cons (qe_tup (qa_cons (qe_tup (qa_cons qe_int (qa_cons qe_int qa_nil))) (qa_cons (qe_tup (qa_cons qe_int (qa_cons qe_int qa_nil))) (qa_cons (qe_tup (qa_cons qe_int (qa_cons qe_int qa_nil))) qa_nil)))) qa_nil))) qa_nil))).qe)
  (qss_cons (qs_set (i := 1) sc__law_known.nd (qe_add (qe_var 1) (qo_lst (qa_cons (qe_tup (qa_cons (qe_tup (qa_cons (qe_tup (qa_cons qe_int (qa_cons qe_int qa_nil))) (qa_cons (qe_tup (qa_cons qe_int (qa_cons qe_int qa_nil))) (qa_cons (qe_tup (qa_cons qe_int (qa_cons qe_int qa_nil))) qa_nil)))) (qa_cons (qe_tup (qa_cons (qe_tup (qa_cons qe_int (qa_cons qe_int qa_nil))) (qa_cons (qe_tup (qa_cons qe_int (qa_cons qe_int qa_nil))) (qa_cons (qe_tup (qa_cons qe_int (qa_cons qe_int qa_nil))) qa_nil)))) qa_nil))) qa_nil)).qe))
  (qss_cons (qs_set (i := 1) sc__law_known.nd (qe_add (qe_var 1) (qo_lst (qa_cons (qe_tup (qa_cons (qe_tup (qa_cons (qe_tup (qa_cons qe_int (qa_cons qe_int qa_nil))) (qa_cons (qe_tup (qa_cons qe_int (qa_cons qe_int qa_nil))) (qa_cons (qe_tup (qa_cons qe_int (qa_cons qe_int qa_nil))) qa_nil)))) (qa_cons (qe_tup (qa_cons (qe_tup (qa_cons qe_int (qa_cons qe_int qa_nil))) (qa_cons (qe_tup (qa_cons qe_int (qa_cons qe_int qa_nil))) (qa_cons (qe_tup (qa_cons qe_int (qa_cons qe_int qa_nil))) qa_nil)))) qa_nil))) qa_nil)).qe))
  (qss_cons (qs_set (i := 1) sc__law_known.nd (qe_add (qe_var 1) (qo_lst (qa_cons (qe_tup (qa_cons (qe_tup (qa_cons (qe_tup (qa_cons qe_int (qa_cons qe_int qa_nil))) (qa_cons (qe_tup (qa_cons qe_int (qa_cons qe_int qa_nil))) (qa_cons (qe_tup (qa_cons qe_int (qa_cons qe_int qa_nil))) qa_nil)))) qa_nil)) (qa_cons (qe_tup (qa_cons (qe_tup (qa_cons (qe_tup (qa_cons qe_int (qa_cons qe_int qa_nil))) (qa_cons (qe_tup (qa_cons qe_int (qa_cons qe_int qa_nil))) qa_nil))) qa_nil)) qa_nil))).qe))
  (qss_cons (qs_set (i := 1) sc__law_known.nd (qe_add (qe_var 1) (qo_lst (qa_cons (qe_tup (qa_cons (qe_tup (qa_cons (qe_tup (qa_cons qe_int (qa_cons qe_int qa_nil))) (qa_cons (qe_tup (qa_cons qe_int (qa_cons qe_int qa_nil))) (qa_cons (qe_tup (qa_cons qe_int (qa_cons qe_int qa_nil))) qa_nil)))) (qa_cons (qe_tup (qa_cons (qe_tup (qa_cons qe_int (qa_cons qe_int qa_nil))) (qa_cons (qe_tup (qa_cons qe_int (qa_cons qe_int qa_nil))) (qa_cons (qe_tup (qa_cons qe_int (qa_cons qe_int qa_nil))) qa_nil)))) qa_nil))) qa_nil)).qe))
  (qss_cons (qs_set (i := 1) sc__law_known.nd (qe_add (qe_var 1) (qo_lst (qa_cons (qe_tup (qa_cons (qe_tup (qa_cons (qe_tup (qa_cons qe_int (qa_cons qe_int qa_nil))) (qa_cons (qe_tup (qa_cons qe_int (qa_cons qe_int qa_nil))) (qa_cons (qe_tup (qa_cons qe_int (qa_cons qe_int qa_nil))) (qa_cons (qe_tup (qa_cons qe_int (qa_cons qe_int qa_nil))) qa_nil))))) (qa_cons (qe_tup (qa_cons (qe_tup (qa_cons qe_int (qa_cons qe_int qa_nil))) (qa_cons (qe_tup (qa_cons qe_int (qa_cons qe_int qa_nil))) (qa_cons (qe_tup (qa_cons qe_int (qa_cons qe_int qa_nil))) (qa_cons (qe_tup (qa_cons qe_int (qa_cons qe_int qa_nil))) qa_nil))))) qa_nil))) qa_nil)).qe))
  (qss_one (qs_ret (qe_ix (qc_var 1) (qe_mod (qe_ix (qc_var 0) qe_int) qe_int))))))))))
theorem sc__law_rows : FnScope n__law_rows ["_law_d", "_law_many"] (defScope s__law_rows) := ⟨rfl, rfl, rfl, by decide +kernel, rfl, by decide +kernel, by decide +kernel⟩
theorem ok__law_rows   (T : Bt mg)       (F : FnP K mg "_law_rows" s__law_rows) : Cl P w K mg base "_law_rows" 1 c__law_rows := by
  obtain ⟨f, fd, F, gm⟩ := F
  refine ⟨["_law_d", "_law_many"], f, fd, gm, F.kp, F.bindsN (ps := ["_law_d", "_law_many"]) fun _ _ _ _ _ _ us hl => match us, hl with | [_, _], _ => rfl, fn_ok (db := d__law_rows) F sc__law_rows l__law_rows (fun cdv A outer s H E hr => ?_) p__law_rows⟩
  have tk := L2N.takes_of (X := cxOf (L2N.CX P w) P w K mg base n__law_rows "_law_rows" (defScope s__law_rows) f cdv A outer s H E) (E := E) rfl rfl rfl rfl
  exact (qss_cons (qs_set (i := 2) sc__law_rows.nd (qe_ix (qo_lst (qa_cons qe_int (qa_cons qe_int (qa_cons qe_int qa_nil)))).qc (qe_mod (qe_ix (qc_var 0) qe_int) qe_int)))
  (qss_one (qs_ret (qe_tuple T.tuple_ (qo_lc (own := [("_law_k", 3)]) rfl sc__law_rows.nd (qi_range1 T.range_ (qe_var 1)) (blkOk_by (N := n__law_rows) (sc := defScope s__law_rows) (by decide +kernel)) (fun _ _ _ _ _ => (qg_name (i := 3) sc__law_rows.nd)) (fun _ _ _ _ _ => qts_nil) (fun _ _ _ _ _ => (qe_tup (qa_cons (qe_mod (qe_ix (qc_var 0) (qe_add qe_int (qe_var 3))) (qe_var 2)) (qa_cons (qe_mod (qe_fdiv (qe_ix (qc_var 0) (qe_add qe_int (qe_var 3))) qe_int) (qe_var 1)) qa_nil))))).qc))))
theorem sc__law_table : FnScope n__law_table ["_law_d", "_law_most_stands", "_law_most_operations"] (defScope s__law_table) := ⟨rfl, rfl, rfl, by decide +kernel, rfl, by decide +kernel, by decide +kernel⟩
theorem ok__law_table   (T : Bt mg) (k__law_known : Cl P w K mg base "_law_known" 1 c__law_known) (k__law_rows : Cl P w K mg base "_law_rows" 1 c__law_rows)      (F : FnP K mg "_law_table" s__law_table) : Cl P w K mg base "_law_table" 2 c__law_table := by
  obtain ⟨f, fd, F, gm⟩ := F
  refine ⟨["_law_d", "_law_most_stands", "_law_most_operations"], f, fd, gm, F.kp, F.bindsN (ps := ["_law_d", "_law_most_stands", "_law_most_operations"]) fun _ _ _ _ _ _ us hl => match us, hl with | [_, _, _], _ => rfl, fn_ok (db := d__law_table) F sc__law_table l__law_table (fun cdv A outer s H E hr => ?_) p__law_table⟩
  have tk := L2N.takes_of (X := cxOf (L2N.CX P w) P w K mg base n__law_table "_law_table" (defScope s__law_table) f cdv A outer s H E) (E := E) rfl rfl rfl rfl
  exact (qss_cons (qs_if (qt_lt (qe_mod (qe_ix (qc_var 0) qe_int) qe_int) qe_int)
  (qss_one (qs_ret (qe_cl k__law_known hr (by omega) tk rfl (qa_cons (qe_slice (qc_var 0) (qp_some qe_int) qp_none) qa_nil))))
  qss_nil)
  (qss_cons (qs_set (i := 3) sc__law_table.nd (qe_add qe_int (qe_mod (qe_ix (qc_var 0) qe_int) (qe_var 1))))
  (qss_one (qs_ret (qe_tuple T.tuple_ (qo_lc (own := [("_law_k", 4)]) rfl sc__law_table.nd (qi_range1 T.range_ (qe_add qe_int (qe_mod (qe_ix (qc_var 0) qe_int) (qe_var 2)))) (blkOk_by (N := n__law_table) (sc := defScope s__law_table) (by decide +kernel)) (fun _ _ _ _ _ => (qg_name (i := 4) sc__law_table.nd)) (fun _ _ _ _ _ => qts_nil) (fun _ _ _ _ _ => (qe_cl k__law_rows hr (by omega) takesN rfl (qa_cons (qe_slice (qc_var 0) (qp_some (qe_add qe_int (qe_mul qe_int (qe_var 4)))) qp_none) (qa_cons (qe_var 3) qa_nil))))).qc)))))
theorem sc__law_same : FnScope n__law_same ["_law_found", "_law_due"] (defScope s__law_same) := ⟨rfl, rfl, rfl, by decide +kernel, rfl, by decide +kernel, by decide +kernel⟩
theorem oka__law_same   (T : Bt mg)       (F : FnP K mg "_law_same" s__law_same) (n : Nat) : Cl P w K mg base "_law_same" (0 + n) (cc__law_same n) := by
  induction n with
  | zero => exact cl_false ["_law_found", "_law_due"] F (fun _ _ _ _ _ _ us hl => match us, hl with | [_, _], _ => rfl) fun _ _ _ h => h
  | succ n k__law_same =>
  obtain ⟨f, fd, F, gm⟩ := F
  refine ⟨["_law_found", "_law_due"], f, fd, gm, F.kp, F.bindsN (ps := ["_law_found", "_law_due"]) fun _ _ _ _ _ _ us hl => match us, hl with | [_, _], _ => rfl, fn_ok (db := d__law_same (cc__law_same n)) (k := 0 + n) F sc__law_same (l__law_same (n + 1)) (fun cdv A outer s H E hr => ?_) (p__law_same n)⟩
  have tk := L2N.takes_of (X := cxOf (L2N.CX P w) P w K mg base n__law_same "_law_same" (defScope s__law_same) f cdv A outer s H E) (E := E) rfl rfl rfl rfl
  exact (qss_cons (qs_if (qt_is (qe_var 1) qe_non)
  (qss_one (qs_ret (qe_is (qe_var 0) qe_non)))
  qss_nil)
  (qss_cons (qs_if (qt_val (qe_isi2 (T := "list") (U := "tuple") rfl rfl T.isinstance_ T.list_ (by decide +kernel) T.tuple_ (by decide +kernel) (qe_var 1)))
  (qss_cons (qs_if (qw_or (qt_ne hr.units (qe_isi (T := "list") rfl T.isinstance_ T.list_ (by decide +kernel) (qe_var 0)) (qe_isi (T := "list") rfl T.isinstance_ T.list_ (by decide +kernel) (qe_var 1))) (qw_or1 (qt_ne hr.units (qe_isi (T := "tuple") rfl T.isinstance_ T.tuple_ (by decide +kernel) (qe_var 0)) (qe_isi (T := "tuple") rfl T.isinstance_ T.tuple_ (by decide +kernel) (qe_var 1))))).qt
  (qss_one (qs_ret qe_bl))
  qss_nil)
  (qss_one (qs_ret (qe_and (qe_eq hr.units (qe_len T.len_ (qe_var 0)) (qe_len T.len_ (qe_var 1))) (qe_one (qe_all rfl T.all_ (qo_lc (own := [("_law_k", 2)]) rfl sc__law_same.nd (qi_range1 T.range_ (qe_len T.len_ (qe_var 1))) (blkOk_by (N := n__law_same) (sc := defScope s__law_same) (by decide +kernel)) (fun _ _ _ _ _ => (qg_name (i := 2) sc__law_same.nd)) (fun _ _ _ _ _ => qts_nil) (fun _ _ _ _ _ => (qe_cl k__law_same hr (by omega) takesN rfl (qa_cons (qe_ix (qc_var 0) (qe_var 2)) (qa_cons (qe_ix (qc_var 1) (qe_var 2)) qa_nil))))).qc))))))
  qss_nil)
  (qss_cons (qs_if (qw_or (qt_ne hr.units (qe_isi (T := "bool") rfl T.isinstance_ T.bool_ (by decide +kernel) (qe_var 0)) (qe_isi (T := "bool") rfl T.isinstance_ T.bool_ (by decide +kernel) (qe_var 1))) (qw_or1 (qt_ne hr.units (qe_isi (T := "str") rfl T.isinstance_ T.str_ (by decide +kernel) (qe_var 0)) (qe_isi (T := "str") rfl T.isinstance_ T.str_ (by decide +kernel) (qe_var 1))))).qt
  (qss_one (qs_ret qe_bl))
  qss_nil)
  (qss_one (qs_ret (qe_and (qe_eq hr.units (qe_isi (T := "int") rfl T.isinstance_ T.int_ (by decide +kernel) (qe_var 0)) (qe_isi (T := "int") rfl T.isinstance_ T.int_ (by decide +kernel) (qe_var 1))) (qe_one (qe_eq hr.units (qe_var 0) (qe_var 1)))))))))
theorem ok__law_same   (T : Bt mg)       (F : FnP K mg "_law_same" s__law_same) : Cl P w K mg base "_law_same" 9 c__law_same := oka__law_same T F 9
theorem sc_law : FnScope n_law ["_law_script"] (defScope s_law) := ⟨rfl, rfl, rfl, by decide +kernel, rfl, by decide +kernel, by decide +kernel⟩
def lamQ : Str := (PyProof.Rows.envOfC "law" (defScope s_law) 0 0 .none).qual ++ "<lambda>"
theorem fin_law   (T : Bt mg) (k__law_numbers : Cl P w K mg base "_law_numbers" 1 c__law_numbers) (k__law_table : Cl P w K mg base "_law_table" 2 c__law_table) (k_reached : Cl P w K mg base "reached" 5 c_reached) (k__law_same : Cl P w K mg base "_law_same" 9 c__law_same)       {f : Addr} {fd : FuncData} (tr : TrK P w K mg base xn_law) (tc : ∃ c Pt, fd.code = .ref c ∧ LamX.TabB base mg c Pt ∧ (Pt, lamQ) ∈ TabC.T ∧ ∀ p ∈ TabC.T, p.1 = Pt → p.2 = lamQ) (F : FunD K "law" "law" (defArgs s_law) (defBody s_law) (defScope s_law) [] [] f fd) : LamX.FnOkG P w K mg base (L2N.CX P w) 10 f fd ["_law_script"] (PSp K mg c_law) := by
  refine fn_okCG (db := d_law) F sc_law l_law (fun A outer s H E hgd hr => ?_) p_law
  have hgx : (cxOf (L2N.CX P w) P w K mg base n_law "law" (defScope s_law) f fd.code A outer s H E).A.guards = some [] := hgd
  have tk := L2N.takes_of (X := cxOf (L2N.CX P w) P w K mg base n_law "law" (defScope s_law) f fd.code A outer s H E) (E := E) rfl rfl rfl rfl
  have tx : TabX (cxOf (L2N.CX P w) P w K mg base n_law "law" (defScope s_law) f fd.code A outer s H E) := by
    obtain ⟨c, Pt, h1, h2, h3, h4⟩ := tc
    exact ⟨⟨c, Pt, h2, h1, h3, h4⟩⟩
  exact (qss_cons (qs_set (i := 1) sc_law.nd (qe_cl k__law_numbers hr (by omega) tk rfl (qa_cons (qe_var 0) (qa_cons qe_int qa_nil))))
  (qss_cons (qs_for (L2.passes_of rfl) rfl (qi_range1 T.range_ qe_int) (qg_name (i := 2) sc_law.nd)
  (qss_cons (qs_set (i := 3) sc_law.nd (qe_cl k__law_table hr (by omega) tk rfl (qa_cons (qe_slice (qc_var 1) (qp_some (qe_mul qe_int (qe_var 2))) (qp_some (qe_add (qe_mul qe_int (qe_var 2)) qe_int))) (qa_cons qe_int (qa_cons qe_int qa_nil)))))
  (qss_cons (qs_set (i := 4) sc_law.nd (qe_len T.len_ (qe_ix (qc_var 3) qe_int)))
  (qss_cons (qs_for (L2.passes_of rfl) rfl (qi_range1 T.range_ (qe_var 4)) (qg_name (i := 5) sc_law.nd)
  (qss_cons (qs_set (i := 6) sc_law.nd (qo_lst (qa_cons (qe_var 5) qa_nil)).qe)
  (qss_cons (qs_for (L2.passes_of rfl) rfl (qi_range1 T.range_ (qe_var 4)) (qg_name (i := 7) sc_law.nd)
  (qss_one (qs_for (L2.passes_of rfl) rfl (qi_e (qe_var 3)) (qg_name (i := 8) sc_law.nd)
  (qss_one (qs_set (i := 6) sc_law.nd (qe_add (qe_var 6) (qo_lc (own := [("_law_stand", 11)]) rfl sc_law.nd (qi_e (qe_var 6)) (blkOk_by (N := n_law) (sc := defScope s_law) (by decide +kernel)) (fun _ _ _ _ _ => (qg_name (i := 11) sc_law.nd)) (fun _ _ _ _ _ => (qts_one (qt_notIn (qe_ix (qe_ix (qc_var 8) (qe_var 11)).qc qe_int) (qc_var 6)))) (fun _ _ _ _ _ => (qe_ix (qe_ix (qc_var 8) (qe_var 11)).qc qe_int))).qe))))))
  (qss_cons (qs_setO (i := 9) sc_law.nd (qo_cl k_reached hr (by omega) tk rfl (qa_cons (qe_var 3) (qa_cons (qe_var 5) qa_nil))))
  (qss_cons (qs_if (qt_not (qt_val (qe_lend 9 (qe_cl k__law_same hr (by omega) tk rfl (qa_cons (qe_var 9) (qa_cons (qo_sortedSetL rfl T.sorted_ T.set_ (qc_var 6)).qe qa_nil))))))
  (qss_one (qs_ret qe_bl))
  qss_nil)
  (qss_cons (qs_app (i := 9) qe_int (hp := pe_bm PySem.F.plainAttrs_list PySem.F.slot_list_append PySem.F.type_list_append mt_append (pv 9) (pa_cons qe_int pa_nil)))
  (qss_one (qs_if (qt_not (qt_val (qe_cl k__law_same hr (by omega) tk rfl (qa_cons (qe_cl k_reached hr (by omega) tk rfl (qa_cons (qe_var 3) (qa_cons (qe_var 5) qa_nil))) (qa_cons (qo_sortedSetL rfl T.sorted_ T.set_ (qc_var 6)).qe qa_nil)))))
  (qss_one (qs_ret qe_bl))
  qss_nil))))))))
  (qss_cons (qs_set (i := 10) sc_law.nd (qe_ix (qo_lst (qa_cons (qe_neg qe_int) (qa_cons (qe_var 4) (qa_cons qe_int qa_nil)))).qc (qe_mod (qe_ix (qc_var 1) qe_int) qe_int)))
  (qss_one (qs_if (qt_ne hr.units (qe_tr (k := 5) tr tx hr hgx (by omega) (fun A outer s H E f c' hr => (qe_cl k_reached hr (by omega) takes_lam rfl (qa_cons (qe_var 3) (qa_cons (qe_var 10) qa_nil)))) (L := LamX.lamS_by (sc := defScope s_law) (by decide +kernel))) (qe_tup (qa_cons qe_non (qa_cons qe_str qa_nil))))
  (qss_one (qs_ret qe_bl))
  qss_nil)))))))
  (qss_one (qs_ret qe_bl))))
end
section
theorem ob_eq (s : PySem.W.SharedT) : ob s = hk.obs s.abs := obsA_eq s
theorem facts {P : Program} {w : World} {K : PySem.W.Frag} {h : Heap} {mg : Str → Option Value} {f : Addr} (X : K.In h) (G : h.Ns mainGlobals mg) (hfa : mg ("law" : Str) = some (.ref f)) (c : He.SaysX fa fn ([] : List He.Tab) [("law", none)] exB w h K) (hsf : SetF w) (hT : TabC.T = [((He.cT K ("law", none)).2, lamQ)]) :
    ∃ fd : FuncData, (∀ (s : Shared) (v : Value), BindsTo s fd ⟨[v], []⟩ [("_law_script", v)]) ∧ ∀ base : Heap, K.In base → base.Ns mainGlobals mg → LamX.TabB base mg (He.cT K ("law", none)).1 (He.cT K ("law", none)).2 → LamX.FnOkG P w K mg base CX0 10 f fd ["_law_script"] (spL K mg c_law) := by
  have d := c.t.d
  have more := c.more
  have T : Bt mg := ⟨He.free_ok X G (d.fact 35 (f := .free "len") rfl), He.free_ok X G (d.fact 36 (f := .free "range") rfl), He.free_ok X G (d.fact 37 (f := .free "tuple") rfl), He.free_ok X G (d.fact 38 (f := .free "list") rfl), He.free_ok X G (d.fact 39 (f := .free "all") rfl), He.free_ok X G (d.fact 40 (f := .free "any") rfl), He.free_ok X G (d.fact 41 (f := .free "isinstance") rfl), He.free_ok X G (d.fact 42 (f := .free "int") rfl), He.free_ok X G (d.fact 43 (f := .free "bool") rfl), He.free_ok X G (d.fact 44 (f := .free "str") rfl), He.free_ok X G (d.fact 45 (f := .free "sorted") rfl), He.free_ok X G (d.fact 46 (f := .free "enumerate") rfl), He.free_ok X G (d.fact 47 (f := .free "zip") rfl), He.free_ok X G (d.fact 48 (f := .free "max") rfl), He.free_ok X G (d.fact 49 (f := .free "min") rfl), He.free_ok X G (d.fact 50 (f := .free "set") rfl), He.free_ok X G (d.fact 51 (f := .free "dict") rfl), He.free_ok X G (d.fact 52 (f := .free "sum") rfl), He.free_ok X G (d.fact 53 (f := .free "repr") rfl)⟩
  have F_is_whole : FnP K mg "is_whole" s_is_whole := by
    obtain ⟨fd, F⟩ := d.def_ 0 (d := dd0) rfl
    exact ⟨_, fd, F, He.glo_ok X G (d.fact 0 (f := .glo "is_whole") rfl)⟩
  have F_is_operation : FnP K mg "is_operation" s_is_operation := by
    obtain ⟨fd, F⟩ := d.def_ 1 (d := dd1) rfl
    exact ⟨_, fd, F, He.glo_ok X G (d.fact 1 (f := .glo "is_operation") rfl)⟩
  have F_look_table : FnP K mg "look_table" s_look_table := by
    obtain ⟨fd, F⟩ := d.def_ 2 (d := dd2) rfl
    exact ⟨_, fd, F, He.glo_ok X G (d.fact 2 (f := .glo "look_table") rfl)⟩
  have F_look_stand : FnP K mg "look_stand" s_look_stand := by
    obtain ⟨fd, F⟩ := d.def_ 3 (d := dd3) rfl
    exact ⟨_, fd, F, He.glo_ok X G (d.fact 3 (f := .glo "look_stand") rfl)⟩
  have F_reached : FnP K mg "reached" s_reached := by
    obtain ⟨fd, F⟩ := d.def_ 4 (d := dd4) rfl
    exact ⟨_, fd, F, He.glo_ok X G (d.fact 4 (f := .glo "reached") rfl)⟩
  have F__law_numbers : FnP K mg "_law_numbers" s__law_numbers := by
    obtain ⟨fd, F⟩ := d.def_ 5 (d := dd5) rfl
    exact ⟨_, fd, F, He.glo_ok X G (d.fact 5 (f := .glo "_law_numbers") rfl)⟩
  have F__law_known : FnP K mg "_law_known" s__law_known := by
    obtain ⟨fd, F⟩ := d.def_ 6 (d := dd6) rfl
    exact ⟨_, fd, F, He.glo_ok X G (d.fact 6 (f := .glo "_law_known") rfl)⟩
  have F__law_rows : FnP K mg "_law_rows" s__law_rows := by
    obtain ⟨fd, F⟩ := d.def_ 7 (d := dd7) rfl
    exact ⟨_, fd, F, He.glo_ok X G (d.fact 7 (f := .glo "_law_rows") rfl)⟩
  have F__law_table : FnP K mg "_law_table" s__law_table := by
    obtain ⟨fd, F⟩ := d.def_ 8 (d := dd8) rfl
    exact ⟨_, fd, F, He.glo_ok X G (d.fact 8 (f := .glo "_law_table") rfl)⟩
  have F__law_same : FnP K mg "_law_same" s__law_same := by
    obtain ⟨fd, F⟩ := d.def_ 9 (d := dd9) rfl
    exact ⟨_, fd, F, He.glo_ok X G (d.fact 9 (f := .glo "_law_same") rfl)⟩
  have c_MOST_OPERATIONS : GI mg "MOST_OPERATIONS" 4 := He.int_ok X G (d.fact 54 (f := .int "MOST_OPERATIONS" 4) rfl)
  have c_MOST_STANDS : GI mg "MOST_STANDS" 5 := He.int_ok X G (d.fact 55 (f := .int "MOST_STANDS" 5) rfl)
  simp only [exB, Bool.and_eq_true] at more
  obtain ⟨⟨x_NoStand, x_BadTable⟩, htr⟩ := more
  have m_NoStand := He.glo_ok X G (d.fact 11 (f := .glo "NoStand") rfl)
  have m_BadTable := He.glo_ok X G (d.fact 12 (f := .glo "BadTable") rfl)
  obtain ⟨fx_NoStand, Fx_NoStand⟩ := d.def_ 13 (d := dd13) rfl
  obtain ⟨fx_BadTable, Fx_BadTable⟩ := d.def_ 14 (d := dd14) rfl
  obtain ⟨fd, F⟩ := d.def_ 10 (d := dd10) rfl
  have e := hfa.symm.trans (He.glo_ok X G (d.fact 10 (f := .glo "law") rfl))
  cases e
  have b := FunD.bindsA (ps := ["_law_script"]) F fun _ _ _ _ _ _ us hl => match us, hl with | [_], _ => rfl
  refine ⟨fd, fun s v => b s [v] rfl, fun base _ _ TB0 => fn_cx0G ?_⟩
  have r_NoStand : Rs P w K mg base "NoStand" 2 1 (xfV "NoStand" []) := rs_NoStand (xcB_ok x_NoStand) Fx_NoStand m_NoStand
  have r_BadTable : Rs P w K mg base "BadTable" 2 1 (xfV "BadTable" ["at"]) := rs_BadTable (xcB_ok x_BadTable) Fx_BadTable m_BadTable
  obtain ⟨fd__law_called, F__law_called⟩ := d.def_ 11 (d := dd11) rfl
  have g__law_called := He.glo_ok X G (d.fact 34 (f := .glo "_law_called") rfl)
  obtain ⟨fd__law_tried, F__law_tried⟩ := d.def_ 12 (d := dd12) rfl
  have g__law_tried := He.glo_ok X G (d.fact 33 (f := .glo "_law_tried") rfl)
  have g_BadTable := He.glo_ok X G (d.fact 12 (f := .glo "BadTable") rfl)
  have g_BadText := He.glo_ok X G (d.fact 13 (f := .glo "BadText") rfl)
  have g_BadChoice := He.glo_ok X G (d.fact 14 (f := .glo "BadChoice") rfl)
  have g_BadOrder := He.glo_ok X G (d.fact 15 (f := .glo "BadOrder") rfl)
  have g_BadMany := He.glo_ok X G (d.fact 16 (f := .glo "BadMany") rfl)
  have g_BadScheme := He.glo_ok X G (d.fact 17 (f := .glo "BadScheme") rfl)
  have g_BadWishes := He.glo_ok X G (d.fact 18 (f := .glo "BadWishes") rfl)
  have g_BadTurn := He.glo_ok X G (d.fact 19 (f := .glo "BadTurn") rfl)
  have g_Full := He.glo_ok X G (d.fact 20 (f := .glo "Full") rfl)
  have g_TooWide := He.glo_ok X G (d.fact 21 (f := .glo "TooWide") rfl)
  have g_NoScheme := He.glo_ok X G (d.fact 22 (f := .glo "NoScheme") rfl)
  have g_Ended := He.glo_ok X G (d.fact 23 (f := .glo "Ended") rfl)
  have g_Still := He.glo_ok X G (d.fact 24 (f := .glo "Still") rfl)
  have g_Busy := He.glo_ok X G (d.fact 25 (f := .glo "Busy") rfl)
  have g_Idle := He.glo_ok X G (d.fact 26 (f := .glo "Idle") rfl)
  have g_Undone := He.glo_ok X G (d.fact 27 (f := .glo "Undone") rfl)
  have g_NoStand := He.glo_ok X G (d.fact 11 (f := .glo "NoStand") rfl)
  have g_NoOperation := He.glo_ok X G (d.fact 28 (f := .glo "NoOperation") rfl)
  have g_NoHand := He.glo_ok X G (d.fact 29 (f := .glo "NoHand") rfl)
  have g_NothingLeft := He.glo_ok X G (d.fact 30 (f := .glo "NothingLeft") rfl)
  have g_HandError := He.glo_ok X G (d.fact 31 (f := .glo "HandError") rfl)
  have g_Missing := He.glo_ok X G (d.fact 32 (f := .glo "Missing") rfl)
  have mall : ∀ c ∈ callNames, mg c = some (.ref (He.ga K c)) := by
    intro c hc
    simp only [callNames, List.mem_cons, List.not_mem_nil, or_false] at hc
    rcases hc with rfl | rfl | rfl | rfl | rfl | rfl | rfl | rfl | rfl | rfl | rfl | rfl | rfl | rfl | rfl | rfl | rfl | rfl | rfl | rfl
    · exact g_BadTable
    · exact g_BadText
    · exact g_BadChoice
    · exact g_BadOrder
    · exact g_BadMany
    · exact g_BadScheme
    · exact g_BadWishes
    · exact g_BadTurn
    · exact g_Full
    · exact g_TooWide
    · exact g_NoScheme
    · exact g_Ended
    · exact g_Still
    · exact g_Busy
    · exact g_Idle
    · exact g_Undone
    · exact g_NoStand
    · exact g_NoOperation
    · exact g_NoHand
    · exact g_NothingLeft
  have bC := F__law_called.bindsN (ps := ["_law_e"]) fun _ _ _ _ _ _ us hl => match us, hl with | [_], _ => rfl
  have bT := F__law_tried.bindsN (ps := ["_law_ask"]) fun _ _ _ _ _ _ us hl => match us, hl with | [_], _ => rfl
  have hx : ∀ nm c, (nm, c) ∈ xn_law → ∃ D, mg nm = some (.ref D) ∧ TrF K mg (clsT K) nm D c := fun nm c hc => trB_ok (List.all_eq_true.mp htr _ hc) mall
  have tr : TrK P w K mg base xn_law := by
    refine ⟨_, fd__law_tried, F__law_tried, g__law_tried, bT, fun Z e1 e2 e3 e4 e5 hgd k cdv q => ?_⟩
    subst e1 e2 e3 e4 e5
    exact gives__law_tried T g_BadTable g_BadText g_Undone g_BadScheme g_TooWide g_NoScheme g_HandError g_Missing g_NothingLeft hx (ok__law_called T F__law_called) g__law_called F__law_called.kp bC hgd
  have k_is_whole : Cl P w K mg base "is_whole" 1 c_is_whole := ok_is_whole T F_is_whole
  have k_is_operation : Cl P w K mg base "is_operation" 2 c_is_operation := ok_is_operation T k_is_whole c_MOST_STANDS F_is_operation
  have k_look_table : Cl P w K mg base "look_table" 3 c_look_table := ok_look_table T k_is_operation c_MOST_OPERATIONS r_BadTable F_look_table
  have k_look_stand : Cl P w K mg base "look_stand" 4 c_look_stand := ok_look_stand T k_look_table r_NoStand F_look_stand
  have k_reached : Cl P w K mg base "reached" 5 c_reached := ok_reached hsf T k_look_stand F_reached
  have k__law_numbers : Cl P w K mg base "_law_numbers" 1 c__law_numbers := ok__law_numbers T F__law_numbers
  have k__law_known : Cl P w K mg base "_law_known" 1 c__law_known := ok__law_known T F__law_known
  have k__law_rows : Cl P w K mg base "_law_rows" 1 c__law_rows := ok__law_rows T F__law_rows
  have k__law_table : Cl P w K mg base "_law_table" 2 c__law_table := ok__law_table T k__law_known k__law_rows F__law_table
  have k__law_same : Cl P w K mg base "_law_same" 9 c__law_same := ok__law_same T F__law_same
  have tc : ∃ c Pt, fd.code = .ref c ∧ LamX.TabB base mg c Pt ∧ (Pt, lamQ) ∈ TabC.T ∧ ∀ p ∈ TabC.T, p.1 = Pt → p.2 = lamQ := by
    refine ⟨_, _, code_at (p := ("law", none)) F, TB0, by rw [hT]; simp, fun p hp hpe => ?_⟩
    rw [hT] at hp
    simp only [List.mem_cons, List.not_mem_nil, or_false] at hp
    rcases hp with rfl
    · rfl
  exact fin_law T k__law_numbers k__law_table k_reached k__law_same tr tc F
end
end WH
open PySem PySem.W PySem.Calls PyProof.Rows
theorem PySem.Challenge.cw_whofirst_k03_stands_reached_holds : PySem.Challenge.rw_whofirst_k03_stands_reached.Holds := by
  letI : WH.TabC := ⟨[], false⟩
  w_on; o_law
  refine HandSHeadRun.head_any (r := OpenLaw.row PySem.Challenge.rw_whofirst_k03_stands_reached) (q := view (OpenLaw.row PySem.Challenge.rw_whofirst_k03_stands_reached).prog [39]) (H := WH.hk) (ob := WH.ob) (M := 20000) (loose := WH.loose) (d := HandSHeadRun.topDef (OpenLaw.row PySem.Challenge.rw_whofirst_k03_stands_reached).prog 39) (kwd := []) WH.ob_eq
    (by kernel_rfl) (fun s => by kernel_rfl) WH.run (by kernel_rfl) (by kernel_rfl) (by kernel_rfl) (by rfl) (by first | assumption | decide +kernel) (by decide +kernel) ⟨rfl, rfl, rfl, rfl, rfl, by decide +kernel⟩ ?hw ?hc
  case hw => w_witness2
  case hc =>
    refine LamX.walk_ofTsEG (l := PySem.Challenge.rw_whofirst_k03_stands_reached) (n := 63) (k := 10) (x := "_law_script") (CX := fun _ => L2.CX0) rfl (by decide) (by kernel_rfl) ⟨rfl, by decide, by decide⟩ ?F (fun _ _ _ _ _ z => z)
    intro w mg fa h Y G hmg0
    obtain ⟨K, KX, c⟩ := Y
    have hmg : mg ("law" : PySem.Str) = some (.ref fa) := by
      have e : (HandSHeadRun.topDef (OpenLaw.row PySem.Challenge.rw_whofirst_k03_stands_reached).prog 39).name = ("law" : PySem.Str) := by kernel_rfl
      rw [← e]
      exact hmg0
    letI : WH.TabC := ⟨[((He.cT K ("law", none)).2, WH.lamQ)], w.params.followText "set-order"⟩
    obtain ⟨fd, hb, hF⟩ := WH.facts (P := (PySem.Challenge.rw_whofirst_k03_stands_reached).prog) (w := w) KX G hmg c rfl rfl
    refine ⟨K, KX, fd, [He.cT K ("law", none)], WH.spL K mg WH.c_law, fun p hp => ?_, fun p hp => ?_, fun p hp => ?_, hb, fun H a ns hl _ hT hS => WH.law_sp (fun ns R h1 h2 => ⟨ns, rfl, h1, h2⟩) H a ns hl hS (fun p hp => ?_), fun base KB GB TB => hF base KB GB (TB _ (by simp))⟩
    · simp only [List.mem_cons, List.not_mem_nil, or_false] at hp
      rcases hp with rfl <;> exact c.empty _ (by simp)
    · simp only [List.mem_cons, List.not_mem_nil, or_false] at hp
      rcases hp with rfl <;> exact c.out _ (by simp)
    · simp only [List.mem_cons, List.not_mem_nil, or_false] at hp
      rcases hp with rfl <;> exact PySem.W.codeHd_of_K KX (c.hd _ (by simp))
    · replace hp : p ∈ ([((He.cT K ("law", none)).2, WH.lamQ)] : List (PySem.Addr × PySem.Str)) := hp
      simp only [List.mem_cons, List.not_mem_nil, or_false] at hp
      rcases hp with rfl <;> exact LamX.TabS.nil (hT _ (by simp))

