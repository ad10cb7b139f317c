import PyProof.Rows.All
import HandS.ForMost
import HandS.Walk
import HandS.Defaults
import KE.KDictKeyed
import HandS.TupAny
import HandS.Wide
import HandS.Deep
import HandS.Exc
import KE.GoesEnum
import HandS.MakeKwOnly
import HandS.Style
import HandS.Conv
import PyProof.DictMoreH
import KE.SortData
import KE.KDictSum
import KE.KDictCopyH
import HandS.Head0
import HandS.Head1
import HandS.Head2
import HandS.HeadEnd
import HandS.HeadHook1
import HandS.HeadHook2
import HandS.EndBits
import HandS.DictComp
import HandS.Strs
import HandS.TupSets
import HandS.SetFor
import PyProof.ReprBulk
import PyProof.Rows.ReprOcc
import PyProof.Rows.RegStrFacts
import PyProof.Rows.StrDigitsNeg
import HandS.IsInst
import KE.GoesZip
import KE.GoesMore
import KE.KDictPairs
import HandS.Codes
import KE.KDictDisplayH
import HandS.DictTup
import HandS.ListItems
import KE.KUnpackStar
import KE.KDictZip
import KE.KDictWalk
import HandS.ExcInit
import HandS.ExcIs
import KE.KExcIs
import KE.KExcInit
import KE.KTryMore
import HandS.ExcField
import PyProof.ExcBaseAll.LookupError
import KE.DatumOrd
import HandS.RaiseMore
import HandS.SetBool
import HandS.SetKeys
import PyProof.StrOps2
import KE.DataCmp
import PyProof.WalksMore
import HandS.TupMul
import HandS.Lambda
import HandS.EndTab
import HandS.Text
import PySem.Challenge.RW_strangeseats_k77_histories_as_texts
set_option Elab.async false
set_option linter.all false
set_option maxRecDepth 1000000
set_option maxHeartbeats 4000001
namespace MI
open PySem PySem.Spec L2
structure KX where
  K : PySem.W.Frag
  P : Program
  w : World
def _root_.L2.Cx.kx (X : Cx) : KX := ⟨X.K, X.prog, X.w⟩
inductive D where
  | non | bl (b : Bool) | int (i : Int) | str (x : Str)
  | tup (ds : List D) | lst (ds : List D) | dic (kvs : List (D × D)) | dit (kvs : List (D × D)) | set (ds : List D)
  | obj (n : Nat) | scr (ns : List Int)
instance : Inhabited D := ⟨.non⟩
inductive O where
  | lst (ds : List D)
  | dic (kvs : List (D × D)) | dit (kvs : List (D × D))
  | ins (c : Nat) (fs : List (Str × D))
  | exc (c : Nat) (fs : List (Str × D))
  | tab (k : Nat) (q : Str)
  | gone
abbrev Sto := List O
structure MS where
  sl : List (Option D)
  st : Sto
inductive R (α : Type) where
  | ok (a : α) (m : MS)
  | bad
abbrev Den (α : Type) := MS -> R α
inductive Tag where
  | frz | frm | slot (i : Nat) | st (n : Nat) | fld (n : Nat) (f : Str)
  deriving DecidableEq
abbrev Gh := Addr -> Option (Tag × HO)
def Zof (G : Gh) : Hp := fun a => match G a with
  | some (.frz, o) => some o
  | _ => none
theorem zof_of {G : Gh} {a : Addr} {o : HO} (h : G a = some (.frz, o)) : Zof G a = some o := by unfold Zof; rw [h]
theorem of_zof {G : Gh} {a : Addr} {o : HO} (h : Zof G a = some o) : G a = some (.frz, o) := by
  unfold Zof at h
  split at h
  · next x e => rw [e]; cases h; rfl
  · cases h
def putG (G : Gh) (a : Addr) (t : Tag) (o : HO) : Gh := fun b => if b = a then some (t, o) else G b
theorem putG_same {G : Gh} {a : Addr} {t : Tag} {o : HO} : putG G a t o a = some (t, o) := by unfold putG; rw [if_pos rfl]
theorem putG_ne {G : Gh} {a b : Addr} {t : Tag} {o : HO} (h : b ≠ a) : putG G a t o b = G b := by unfold putG; rw [if_neg h]
def kD : Key -> D
  | .inl i => .int i
  | .inr x => .str x
def rawAt (a : Addr) (o : Obj) : Heap -> Prop := fun h => h.get? a = some o
def hoN (a : Addr) (o : Obj) : HO := .ext (rawAt a o)
abbrev XS := List (NestedKey × Addr × Value)
structure RawN (K : KX) (a : Addr) (o : Obj) (xs : XS) : Prop where
  len : xs.length <= sizeLine
  ns : (a == sysModules) = false
  exact' : o.ExactDict
  ent : ∃ es ep, o.data = .dict es ep /\ es.toList = xs.map (entryOfKey (nestedKind K.P K.w))
  nd : (xs.map (·.1)).Nodup
  dp : ∀ x ∈ xs, x.1.depth <= 8
mutual
def toNK : D -> Option NestedKey
  | .non => some .none
  | .int i => some (.num i)
  | .str x => some (.text x)
  | .tup ds => (toNKs ds).map .tup
  | _ => none
def toNKs : List D -> Option (List NestedKey)
  | [] => some []
  | d :: ds => match toNK d, toNKs ds with
    | some k, some ks => some (k :: ks)
    | _, _ => none
end
def SqN (K : PySem.W.Frag) (Z : Hp) (a : Addr) (xs : List V) : Prop :=
  (∃ o : Obj, o.dict = none /\ Z a = some (.frz o (.tup xs))) \/ ∃ (o : Obj) (its : Array Value) (n : Nat), o.dict = none /\ K.lookup a = some o /\ o.cls = .type "tuple" /\ o.data = .seq its n /\ its.size <= sizeLine /\ Vals xs its.toList
theorem SqN.t {K : PySem.W.Frag} {Z : Hp} {a : Addr} {xs : List V} (h : SqN K Z a xs) : SqT K Z a xs := by
  rcases h with ⟨o, _, h⟩ | ⟨o, its, n, _, h1, h2, h3, h4, h5⟩
  · exact .inl (.inr ⟨o, h⟩)
  · exact .inr ⟨o, its, n, h1, h2, h3, h4, h5⟩
mutual
inductive DV (K : KX) (Z : Hp) (al : List Addr) : V -> D -> Prop
  | non : DV K Z al .non .non
  | bl (b : Bool) : DV K Z al (.bl b) (.bl b)
  | int (i : Int) : DV K Z al (.int i) (.int i)
  | str (x : Str) : DV K Z al (.str x) (.str x)
  | tup {a : Addr} {xs : List V} {ds : List D} : SqN K.K Z a xs -> DVs K Z al xs ds -> DV K Z al (.ref a) (.tup ds)
  | lst {a : Addr} {xs : List V} {ds : List D} : Z a = some (.lst xs) -> DVs K Z al xs ds -> DV K Z al (.ref a) (.lst ds)
  | scr {a : Addr} {ns : List Int} : SqL K.K Z a (ns.map V.int) -> DV K Z al (.ref a) (.scr ns)
  | dicK {a : Addr} {kvs : List (Key × V)} {ds : List (D × D)} : Rd Z a (.dK kvs) -> ds.map Prod.fst = kvs.map (fun q => kD q.1) -> DVs K Z al (kvs.map Prod.snd) (ds.map Prod.snd) -> DV K Z al (.ref a) (.dic ds)
  | ditN {a : Addr} {o : Obj} {xs : XS} {vs : List V} {ds : List (D × D)} : Z a = some (hoN a o) -> RawN K a o xs -> DVs K Z al (xs.map fun x => V.ref x.2.1) (ds.map Prod.fst) -> toNKs (ds.map Prod.fst) = some (xs.map (·.1)) -> Vals vs (xs.map (·.2.2)) -> DVs K Z al vs (ds.map Prod.snd) -> DV K Z al (.ref a) (.dit ds)
  | obj {n : Nat} {a : Addr} : al[n]? = some a -> DV K Z al (.ref a) (.obj n)
inductive DVs (K : KX) (Z : Hp) (al : List Addr) : List V -> List D -> Prop
  | nil : DVs K Z al [] []
  | cons {v : V} {vs : List V} {d : D} {ds : List D} : DV K Z al v d -> DVs K Z al vs ds -> DVs K Z al (v :: vs) (d :: ds)
end
section
variable {K : KX} {Z Z' : Hp} {al al' : List Addr}
theorem Same.tupN {H H' : Hp} {a : Addr} {xs : List V} (e : Same H H') (h : SqN K.K H a xs) : SqN K.K H' a xs := by
  rcases h with ⟨o, d, h⟩ | h
  · exact .inl ⟨o, d, e _ _ h⟩
  · exact .inr h
theorem Same.tupS {H H' : Hp} {a : Addr} {xs : List V} (e : Same H H') (h : SqN K.K H a xs) : SqT K.K H' a xs := (Same.tupN e h).t
theorem Same.rd {H H' : Hp} {a : Addr} {o : HO} (e : Same H H') (h : Rd H a o) : Rd H' a o := by
  rcases h with h | ⟨u, h⟩
  · exact .inl (e _ _ h)
  · exact .inr ⟨u, e _ _ h⟩
mutual
theorem DV.mono (s : Same Z Z') (p : al <+: al') : ∀ {v : V} {d : D}, DV K Z al v d -> DV K Z' al' v d
  | _, _, .non => .non
  | _, _, .bl b => .bl b
  | _, _, .int i => .int i
  | _, _, .str x => .str x
  | _, _, .tup h r => .tup (Same.tupN s h) (DVs.mono s p r)
  | _, _, .lst h r => .lst (s _ _ h) (DVs.mono s p r)
  | _, _, .scr h => .scr (L2.Same.seq s h)
  | _, _, .dicK h e r => .dicK (Same.rd s h) e (DVs.mono s p r)
  | _, _, .ditN h r k n v c => .ditN (s _ _ h) r (DVs.mono s p k) n v (DVs.mono s p c)
  | _, _, .obj h => .obj (by
      obtain ⟨t, rfl⟩ := p
      rw [List.getElem?_append_left (List.getElem?_eq_some_iff.mp h).1]
      exact h)
theorem DVs.mono (s : Same Z Z') (p : al <+: al') : ∀ {vs : List V} {ds : List D}, DVs K Z al vs ds -> DVs K Z' al' vs ds
  | _, _, .nil => .nil
  | _, _, .cons h r => .cons (DV.mono s p h) (DVs.mono s p r)
end
theorem DVs.length : ∀ {vs : List V} {ds : List D}, DVs K Z al vs ds -> vs.length = ds.length
  | _, _, .nil => rfl
  | _, _, .cons _ r => by rw [List.length_cons, List.length_cons, DVs.length r]
theorem DVs.set {v : V} {d : D} (h : DV K Z al v d) : ∀ {vs : List V} {ds : List D} (i : Nat), DVs K Z al vs ds -> DVs K Z al (vs.set i v) (ds.set i d)
  | _, _, _, .nil => .nil
  | _, _, 0, .cons _ r => .cons h r
  | _, _, i + 1, .cons q r => .cons q (DVs.set h i r)
end
def CO (K : KX) (Z : Hp) (al : List Addr) (ad : Addr) : HO -> D -> Prop
  | .lst xs, .lst ds => DVs K Z al xs ds
  | .ext φ, .dit ds => ∃ (o : Obj) (xs : XS) (vs : List V), φ = rawAt ad o /\ RawN K ad o xs /\ DVs K Z al (xs.map fun x => V.ref x.2.1) (ds.map Prod.fst) /\ toNKs (ds.map Prod.fst) = some (xs.map (·.1)) /\ Vals vs (xs.map (·.2.2)) /\ DVs K Z al vs (ds.map Prod.snd)
  | .dK kvs, .dic ds => ds.map Prod.fst = kvs.map (fun q => kD q.1) /\ DVs K Z al (kvs.map Prod.snd) (ds.map Prod.snd)
  | _, _ => False
theorem CO.mono {K : KX} {Z Z' : Hp} {al al' : List Addr} (s : Same Z Z') (p : al <+: al') : ∀ {a : Addr} {o : HO} {d : D}, CO K Z al a o d -> CO K Z' al' a o d := by
  intro a o d h
  unfold CO at h ⊢
  split at h
  · exact DVs.mono s p h
  · obtain ⟨o, xs, vs, h1, h2, h3, h4, h5, h6⟩ := h
    exact ⟨o, xs, vs, h1, h2, DVs.mono s p h3, h4, h5, DVs.mono s p h6⟩
  · exact ⟨h.1, DVs.mono s p h.2⟩
  · exact h.elim
theorem CO.frz {K : KX} {Z : Hp} {al : List Addr} {a : Addr} {o : HO} {d : D} (h : Z a = some o) (c : CO K Z al a o d) : DV K Z al (.ref a) d := by
  unfold CO at c
  split at c
  · exact .lst h c
  · obtain ⟨o, xs, vs, rfl, h2, h3, h4, h5, h6⟩ := c
    exact .ditN h h2 h3 h4 h5 h6
  · exact .dicK (.inl h) c.1 c.2
  · exact c.elim
structure Ev (G : Gh) (al : List Addr) (G' : Gh) (al' : List Addr) : Prop where
  frz : ∀ a o, G a = some (.frz, o) -> G' a = some (.frz, o)
  frm : ∀ a o, G a = some (.frm, o) -> G' a = some (.frm, o)
  al : al <+: al'
theorem Ev.refl {G : Gh} {al : List Addr} : Ev G al G al := ⟨fun _ _ h => h, fun _ _ h => h, List.prefix_refl _⟩
theorem Ev.same {G G' : Gh} {al al' : List Addr} (e : Ev G al G' al') : Same (Zof G) (Zof G') := fun _ _ h => zof_of (e.frz _ _ (of_zof h))
theorem DV.ev {K : KX} {G G' : Gh} {al al' : List Addr} {v : V} {d : D} (h : DV K (Zof G) al v d) (e : Ev G al G' al') : DV K (Zof G') al' v d := h.mono e.same e.al
theorem DVs.ev {K : KX} {G G' : Gh} {al al' : List Addr} {v : List V} {d : List D} (h : DVs K (Zof G) al v d) (e : Ev G al G' al') : DVs K (Zof G') al' v d := h.mono e.same e.al
structure EvZ (G : Gh) (al : List Addr) (G' : Gh) (al' : List Addr) : Prop where
  frz : ∀ a o, G a = some (.frz, o) -> G' a = some (.frz, o)
  al : al <+: al'
theorem Ev.z {G G' : Gh} {al al' : List Addr} (e : Ev G al G' al') : EvZ G al G' al' := ⟨e.frz, e.al⟩
theorem EvZ.same {G G' : Gh} {al al' : List Addr} (e : EvZ G al G' al') : Same (Zof G) (Zof G') := fun _ _ h => zof_of (e.frz _ _ (of_zof h))
def exH (a C : Addr) (d : Option Addr) : HO := .ext fun h => ∃ (oe : Obj) (vs : Array Value), h.get? a = some oe /\ oe.cls = .ref C /\ oe.dict = d /\ oe.data = .fields vs
def XFz (K : KX) (Z : Hp) (al : List Addr) (d : Option Addr) (fs : List (Str × D)) : Prop :=
  (fs = [] /\ d = none) \/ ∃ dx fvs, d = some dx /\ Z dx = some (.xd fvs) /\ fvs.map Prod.fst = fs.map Prod.fst /\ DVs K Z al (fvs.map Prod.snd) (fs.map Prod.snd)
theorem XFz.mono {K : KX} {Z Z' : Hp} {al al' : List Addr} {d : Option Addr} {fs : List (Str × D)} (h : XFz K Z al d fs) (s : Same Z Z') (p : al <+: al') : XFz K Z' al' d fs := by
  rcases h with h | ⟨dx, fvs, e, z, e2, r⟩
  · exact .inl h
  · exact .inr ⟨dx, fvs, e, s _ _ z, e2, DVs.mono s p r⟩
def CodeZ (Z : Hp) (c : Addr) (q : Str) : Prop := ∃ (oc : Obj) (vs : Array Value) (t : Tok), Z c = some (.frz oc (.own c)) /\ oc.data = .fields vs /\ vs[1]? = some (.str q t)
theorem CodeZ.mono {Z Z' : Hp} {c : Addr} {q : Str} (h : CodeZ Z c q) (s : Same Z Z') : CodeZ Z' c q := by
  obtain ⟨oc, vs, t, z, r⟩ := h
  exact ⟨oc, vs, t, s _ _ z, r⟩
def OO (K : KX) (cls : Nat -> Addr) (Z : Hp) (al : List Addr) (a : Addr) (o : HO) : O -> Prop
  | .lst ds => ∃ xs, o = .lst xs /\ DVs K Z al xs ds
  | .dic kvs => CO K Z al a o (.dic kvs)
  | .dit kvs => CO K Z al a o (.dit kvs)
  | .ins c fs => ∃ dx fvs, o = .ins (cls c) dx fvs /\ fvs.map Prod.fst = fs.map Prod.fst /\ DVs K Z al (fvs.map Prod.snd) (fs.map Prod.snd)
  | .exc c fs => ∃ d, o = exH a (cls c) d /\ XFz K Z al d fs
  | .tab k q => ∃ ps : Array Value, o = .tbl ps /\ a = cls k /\ TriplesOk ps.toList /\ ∀ (pos : Pos) (cv : Value), codeAmong pos ps.toList = some cv -> ∃ c, cv = .ref c /\ CodeZ Z c q
  | .gone => False
theorem OO.mono {K : KX} {cls : Nat -> Addr} {Z Z' : Hp} {al al' : List Addr} {a : Addr} {o : HO} {ob : O} (h : OO K cls Z al a o ob) (s : Same Z Z') (p : al <+: al') : OO K cls Z' al' a o ob := by
  cases ob with
  | lst ds => obtain ⟨xs, e, r⟩ := h; exact ⟨xs, e, DVs.mono s p r⟩
  | dic kvs => exact CO.mono s p h
  | dit kvs => exact CO.mono s p h
  | ins c fs => obtain ⟨dx, fvs, e, e2, r⟩ := h; exact ⟨dx, fvs, e, e2, DVs.mono s p r⟩
  | exc c fs => obtain ⟨d, e, x⟩ := h; exact ⟨d, e, x.mono s p⟩
  | tab k q =>
    obtain ⟨ps, e1, e2, e3, f⟩ := h
    exact ⟨ps, e1, e2, e3, fun pos cv z => by
      obtain ⟨c, z1, z2⟩ := f pos cv z
      exact ⟨c, z1, z2.mono s⟩⟩
  | gone => exact h.elim
def SO (K : KX) (cls : Nat -> Addr) (G : Gh) (al : List Addr) (n : Nat) (a : Addr) (ob : O) : Prop := ∃ o, G a = some (.st n, o) /\ OO K cls (Zof G) al a o ob
structure Hst (K : KX) (cls : Nat -> Addr) (G : Gh) (al : List Addr) (st : Sto) (H : Hp) : Prop where
  gh : ∀ a t o, G a = some (t, o) -> H a = some o
  len : al.length = st.length
  sto' : ∀ n o, st[n]? = some o -> o ≠ .gone -> ∃ a, al[n]? = some a /\ SO K cls G al n a o
theorem Hst.sto {K : KX} {cls : Nat -> Addr} {G : Gh} {al : List Addr} {st : Sto} {H : Hp} (h : Hst K cls G al st H) (n : Nat) (o : O) (e : st[n]? = some o) (hg : o ≠ .gone := by intro z; cases z) : ∃ a, al[n]? = some a /\ SO K cls G al n a o := h.sto' n o e hg
structure Rst (K : KX) (cls : Nat -> Addr) (own : Nat -> Bool) (G : Gh) (al : List Addr) (m : MS) (σ : St) (H : Hp) : Prop where
  hst : Hst K cls G al m.st H
  len : σ.length = m.sl.length
  val : ∀ i d, m.sl[i]? = some (some d) -> own i = false -> ∃ v, σ[i]? = some (some v) /\ DV K (Zof G) al v d
  own : ∀ i d, m.sl[i]? = some (some d) -> own i = true -> ∃ a o, σ[i]? = some (some (.ref a)) /\ G a = some (.slot i, o) /\ CO K (Zof G) al a o d
end MI
namespace MI
open PySem PySem.Spec L2
theorem pe_imp {X : Cx} {e : Expr} {t t' : TE} (h : PE X e t) (i : ∀ σ H Q, t' σ H Q -> t σ H Q) : PE X e t' := ⟨fun pins s σ H Q I q => h.run pins s σ H Q I (i σ H Q q)⟩
section
variable {K : KX} {cls : Nat -> Addr} {own : Nat -> Bool} {G : Gh} {al : List Addr} {m : MS} {σ : St} {H : Hp} {p : Addr} {o : HO} {t : Tag}
theorem Hst.fresh {st : Sto} (r : Hst K cls G al st H) (h : H p = none) : Hst K cls G al st (upd H p o) :=
  ⟨fun a t u e => by
    have : H a = some u := r.gh a t u e
    rw [upd_ne (ne_of_none this h)]; exact this, r.len, r.sto'⟩
theorem Rst.fresh (r : Rst K cls own G al m σ H) (h : H p = none) : Rst K cls own G al m σ (upd H p o) := ⟨r.hst.fresh h, r.len, r.val, r.own⟩
theorem Hst.nog {st : Sto} (r : Hst K cls G al st H) (h : H p = none) : G p = none := by
  cases e : G p with
  | none => rfl
  | some x => obtain ⟨t, u⟩ := x; rw [r.gh p t u e] at h; cases h
theorem ev_put (h : G p = none) : Ev G al (putG G p t o) al := by
  have ne : ∀ {a x}, G a = some x -> a ≠ p := fun e z => by subst z; rw [h] at e; cases e
  exact ⟨fun a o e => by rw [putG_ne (ne e)]; exact e, fun a o e => by rw [putG_ne (ne e)]; exact e, List.prefix_refl _⟩
theorem SO.put {n : Nat} {a : Addr} {ob : O} (h : G p = none) (s : SO K cls G al n a ob) : SO K cls (putG G p t o) al n a ob := by
  obtain ⟨o1, e, r⟩ := s
  have ev : Ev G al (putG G p t o) al := ev_put h
  refine ⟨o1, ?_, r.mono ev.same ev.al⟩
  rw [putG_ne (by intro z; subst z; rw [h] at e; cases e)]; exact e
theorem Hst.tag {st : Sto} (r : Hst K cls G al st H) (h : G p = none) (ho : H p = some o) : Hst K cls (putG G p t o) al st H := by
  refine ⟨fun a t' u e => ?_, r.len, fun n ob e hg => ?_⟩
  · by_cases hp : a = p
    · subst hp; rw [putG_same] at e; cases e; exact ho
    · rw [putG_ne hp] at e; exact r.gh a t' u e
  · obtain ⟨a, h1, h2⟩ := r.sto n ob e hg
    exact ⟨a, h1, h2.put h⟩
theorem Rst.tag (r : Rst K cls own G al m σ H) (h : G p = none) (ho : H p = some o) : Rst K cls own (putG G p t o) al m σ H := by
  refine ⟨r.hst.tag h ho, r.len, fun i d e f => ?_, fun i d e f => ?_⟩
  · obtain ⟨v, h1, h2⟩ := r.val i d e f
    exact ⟨v, h1, h2.ev (ev_put h)⟩
  · obtain ⟨a, ob, h1, h2, h3⟩ := r.own i d e f
    have ev : Ev G al (putG G p t o) al := ev_put h
    refine ⟨a, ob, h1, ?_, h3.mono ev.same ev.al⟩
    rw [putG_ne (by intro z; subst z; rw [h] at h2; cases h2)]; exact h2
end
inductive Hd where
  | val (d : D)
  | slot (i : Nat)
def HV (K : KX) (own : Nat -> Bool) (G : Gh) (al : List Addr) (σ : St) (v : V) : Hd -> Prop
  | .val d => DV K (Zof G) al v d
  | .slot i => own i = true /\ σ[i]? = some (some v)
theorem HV.ev {K : KX} {own : Nat -> Bool} {G G' : Gh} {al al' : List Addr} {σ : St} {v : V} {h : Hd} (r : HV K own G al σ v h) (e : Ev G al G' al') : HV K own G' al' σ v h := by
  cases h with
  | val d => exact DV.ev r e
  | slot i => exact r
def CR (K : KX) (H Z : Hp) (al : List Addr) (v : V) : D -> Prop
  | .lst ds => ∃ a xs, v = .ref a /\ H a = some (.lst xs) /\ DVs K Z al xs ds
  | .dic ds => ∃ (a : Addr) (kvs : List (Key × V)), v = .ref a /\ Rd H a (.dK kvs) /\ ds.map Prod.fst = kvs.map (fun q => kD q.1) /\ DVs K Z al (kvs.map Prod.snd) (ds.map Prod.snd)
  | .dit ds => ∃ (a : Addr) (o : Obj) (xs : XS) (vs : List V), v = .ref a /\ H a = some (hoN a o) /\ RawN K a o xs /\ DVs K Z al (xs.map fun x => V.ref x.2.1) (ds.map Prod.fst) /\ toNKs (ds.map Prod.fst) = some (xs.map (·.1)) /\ Vals vs (xs.map (·.2.2)) /\ DVs K Z al vs (ds.map Prod.snd)
  | d => DV K Z al v d
def tH (K : KX) (cls : Nat -> Addr) (own : Nat -> Bool) (f : Den Hd) : TE := fun σ H Q => ∃ G al m d m', Rst K cls own G al m σ H /\ f m = .ok d m' /\
  ∀ G' al' v H', Ev G al G' al' -> Rst K cls own G' al' m' σ H' -> HV K own G' al' σ v d -> Q v H'
inductive HVs (K : KX) (own : Nat -> Bool) (G : Gh) (al : List Addr) (σ : St) : List V -> List Hd -> Prop
  | nil : HVs K own G al σ [] []
  | cons {v : V} {vs : List V} {h : Hd} {hs : List Hd} : HV K own G al σ v h -> HVs K own G al σ vs hs -> HVs K own G al σ (v :: vs) (h :: hs)
theorem HVs.ev {K : KX} {own : Nat -> Bool} {G G' : Gh} {al al' : List Addr} {σ : St} (e : Ev G al G' al') : ∀ {vs : List V} {hs : List Hd}, HVs K own G al σ vs hs -> HVs K own G' al' σ vs hs
  | _, _, .nil => .nil
  | _, _, .cons h r => .cons (h.ev e) (HVs.ev e r)
section
variable (cls : Nat -> Addr) (own : Nat -> Bool) (X : Cx)
abbrev SH (e : Expr) (f : Den Hd) : Prop := PE X e (tH X.kx cls own f)
end
def hSlot (i : Nat) : Den Hd := fun m => match m.sl[i]? with
  | some (some _) => .ok (.slot i) m
  | _ => .bad
section
variable {cls : Nat -> Addr} {own : Nat -> Bool} {X : Cx}
theorem sh_slot {i : Nat} {x : Str} {pos : Pos} (hN : X.N[i]? = some x) (hv : Vis X.env.scope x) (ho : own i = true) (hd : (x == ("__debug__" : Str)) = false := by decide) (hcd : (x == ("__classdict__" : Str)) = false := by decide) :
    SH cls own X (.Name x pos) (hSlot i) := by
  refine pe_imp (pe_var hN hv hd hcd) fun σ H Q q => ?_
  obtain ⟨G, al, m, d, m', r, e, k⟩ := q
  unfold hSlot at e
  split at e
  · next d' e' =>
    cases e
    obtain ⟨a, ob, h1, h2, h3⟩ := r.own i d' e' ho
    exact ⟨.ref a, h1, k G al _ H .refl r ⟨ho, h1⟩⟩
  · cases e
end
end MI
namespace MI
open PySem PySem.Spec L2
section
variable (K : KX) (cls : Nat -> Addr) (own : Nat -> Bool) (G : Gh) (al : List Addr) (m : MS) (σ : St)
def Post (d : D) (Q : VK) : Prop := ∀ G' al' v H', Ev G al G' al' -> Rst K cls own G' al' m σ H' -> DV K (Zof G') al' v d -> Q v H'
def PostF (d : D) (Q : VK) : Prop := ∀ G' al' p o H', Ev G al G' al' -> Rst K cls own G' al' m σ H' -> H' p = some o -> G' p = none -> CO K (Zof G') al' p o d -> Q (.ref p) H'
end
section
variable {K : KX} {cls : Nat -> Addr} {own : Nat -> Bool} {G : Gh} {al : List Addr} {m : MS} {σ : St} {H : Hp} {d : D} {Q : VK} {v : V} {p : Addr}
theorem Post.tup {xs : List V} {ds : List D} (k : Post K cls own G al m σ (.tup ds) Q) (r : Rst K cls own G al m σ H) (h : DVs K (Zof G) al xs ds) {ob : Obj} (hp : H p = none) (hd : ob.dict = none) : Q (.ref p) (upd H p (.frz ob (.tup xs))) := by
  have hn := r.hst.nog hp
  have ev : Ev G al (putG G p .frz (.frz ob (.tup xs))) al := ev_put hn
  exact k _ al _ _ ev ((r.fresh hp).tag hn upd_same) (.tup (.inl ⟨ob, hd, zof_of putG_same⟩) (h.ev ev))
theorem PostF.lst {xs : List V} {ds : List D} (k : PostF K cls own G al m σ (.lst ds) Q) (r : Rst K cls own G al m σ H) (h : DVs K (Zof G) al xs ds) (hp : H p = none) : Q (.ref p) (upd H p (.lst xs)) :=
  k G al p _ _ .refl (r.fresh hp) upd_same (r.hst.nog hp) h
end
mutual
def toPy : D -> Option PyData
  | .non => some .none
  | .bl b => some (.bool b)
  | .int i => some (.int i)
  | .str x => some (.str x)
  | .tup ds => (toPys ds).map .tuple
  | .lst ds => (toPys ds).map .list
  | .dic _ => none
  | .dit _ => none
  | .set _ => none
  | .obj _ => none
  | .scr _ => none
def toPys : List D -> Option (List PyData)
  | [] => some []
  | d :: ds => match toPy d, toPys ds with
    | some p, some ps => some (p :: ps)
    | _, _ => none
end
section
variable {K : KX} {H Z : Hp} {al : List Addr}
theorem toPys_cons {d : D} {ds : List D} {ps : List PyData} (e : toPys (d :: ds) = some ps) : ∃ p ps', toPy d = some p /\ toPys ds = some ps' /\ ps = p :: ps' := by
  rw [toPys] at e
  split at e
  · next p ps' h1 h2 => cases e; exact ⟨p, ps', h1, h2, rfl⟩
  · cases e
mutual
theorem DV.dp (s : Same Z H) : ∀ {v : V} {d : D} {p : PyData}, DV K Z al v d -> toPy d = some p -> Dp K.K H v p
  | _, _, _, .non, e => by cases e; exact .non
  | _, _, _, .bl b, e => by cases e; exact .bl b
  | _, _, _, .int b, e => by cases e; exact .int b
  | _, _, _, .str b, e => by cases e; exact .str b
  | _, _, _, .tup (ds := ds) h r, e => by
    cases q : toPys ds with
    | none => rw [toPy, q] at e; cases e
    | some ps => rw [toPy, q] at e; cases e; exact .tup (Same.tupS s h) (DVs.dp s r q)
  | _, _, _, .lst (ds := ds) h r, e => by
    cases q : toPys ds with
    | none => rw [toPy, q] at e; cases e
    | some ps => rw [toPy, q] at e; cases e; exact .lst (.inl (.inl (s _ _ h))) (DVs.dp s r q)
  | _, _, _, .dicK _ _ _, e => by cases e
  | _, _, _, .ditN _ _ _ _ _ _, e => by cases e
  | _, _, _, .obj _, e => by cases e
  | _, _, _, .scr _, e => by cases e
theorem DVs.dp (s : Same Z H) : ∀ {v : List V} {d : List D} {p : List PyData}, DVs K Z al v d -> toPys d = some p -> DpAll K.K H v p
  | _, _, _, .nil, e => by cases e; exact .nil
  | _, _, _, .cons h r, e => by
    obtain ⟨p, ps, h1, h2, rfl⟩ := toPys_cons e
    exact .cons (DV.dp s h h1) (DVs.dp s r h2)
end
theorem CR.dp (s : Same Z H) {v : V} {d : D} {p : PyData} (h : CR K H Z al v d) (e : toPy d = some p) : Dp K.K H v p := by
  cases d with
  | lst ds =>
    obtain ⟨a, xs, rfl, ha, r⟩ := h
    cases q : toPys ds with
    | none => rw [toPy, q] at e; cases e
    | some ps => rw [toPy, q] at e; cases e; exact .lst (.inl (.inl ha)) (r.dp s q)
  | dic ds => cases e
  | dit ds => cases e
  | _ => exact DV.dp s h e
end
end MI
namespace MI
open PySem PySem.Spec L2
section
variable {K : KX} {H Z : Hp} {al : List Addr} {v : V}
theorem CR.int {i : Int} (h : CR K H Z al v (.int i)) : v = .int i := by cases (show DV K Z al v (.int i) from h); rfl
theorem CR.str {i : Str} (h : CR K H Z al v (.str i)) : v = .str i := by cases (show DV K Z al v (.str i) from h); rfl
theorem CR.bl {i : Bool} (h : CR K H Z al v (.bl i)) : v = .bl i := by cases (show DV K Z al v (.bl i) from h); rfl
theorem CR.non (h : CR K H Z al v .non) : v = .non := by cases (show DV K Z al v .non from h); rfl
theorem CR.tup {ds : List D} (h : CR K H Z al v (.tup ds)) : ∃ a xs, v = .ref a /\ SqN K.K Z a xs /\ DVs K Z al xs ds := by
  cases (show DV K Z al v (.tup ds) from h) with
  | tup h1 r1 => exact ⟨_, _, rfl, h1, r1⟩
end
section
variable {K : KX} {cls : Nat -> Addr} {own : Nat -> Bool} {G : Gh} {al : List Addr} {m : MS} {σ : St} {H : Hp} {d : D} {Q : VK} {v : V} {p : Addr}
theorem Post.lst {xs : List V} {ds : List D} (k : Post K cls own G al m σ (.lst ds) Q) (r : Rst K cls own G al m σ H) (h : DVs K (Zof G) al xs ds) (hp : H p = none) : Q (.ref p) (upd H p (.lst xs)) := by
  have hn := r.hst.nog hp
  have ev : Ev G al (putG G p .frz (.lst xs)) al := ev_put hn
  exact k _ al _ _ ev ((r.fresh hp).tag hn upd_same) (.lst (zof_of putG_same) (h.ev ev))
end
end MI
namespace MI
open PySem PySem.Spec L2
end MI
namespace MI
open PySem PySem.Spec L2
end MI
namespace MI
open PySem PySem.Spec L2
section
variable {K : KX} {cls : Nat -> Addr} {own : Nat -> Bool} {G : Gh} {al : List Addr} {m : MS} {σ : St} {H : Hp}
theorem getSet {α : Type} {l : List (Option α)} {i j : Nat} {x : Option α} {d : α} (h : (l.set i x)[j]? = some (some d)) : (j = i /\ i < l.length /\ x = some d) \/ (j ≠ i /\ l[j]? = some (some d)) := by
  by_cases e : j = i
  · subst e
    by_cases hl : j < l.length
    · rw [List.getElem?_set_self hl] at h; exact .inl ⟨rfl, hl, Option.some.inj h⟩
    · rw [List.getElem?_eq_none (by simpa using hl)] at h; cases h
  · rw [List.getElem?_set_ne (Ne.symm e)] at h; exact .inr ⟨e, h⟩
theorem Rst.set {i : Nat} {v : V} {d : D} (r : Rst K cls own G al m σ H) (hv : DV K (Zof G) al v d) (ho : own i = false) : Rst K cls own G al { m with sl := m.sl.set i (some d) } (σ.set i (some v)) H := by
  refine ⟨r.hst, by simp [r.len], fun j e hj hoj => ?_, fun j e hj hoj => ?_⟩
  · rcases getSet hj with ⟨rfl, hl, e1⟩ | ⟨ne, hj⟩
    · cases e1
      exact ⟨v, by rw [List.getElem?_set_self (by rw [r.len]; exact hl)], hv⟩
    · obtain ⟨u, h1, h2⟩ := r.val j e hj hoj
      exact ⟨u, by rw [List.getElem?_set_ne (Ne.symm ne)]; exact h1, h2⟩
  · rcases getSet hj with ⟨rfl, hl, e1⟩ | ⟨ne, hj⟩
    · rw [ho] at hoj; cases hoj
    · obtain ⟨a, ob, h1, h2, h3⟩ := r.own j e hj hoj
      exact ⟨a, ob, by rw [List.getElem?_set_ne (Ne.symm ne)]; exact h1, h2, h3⟩
end
end MI
namespace MI
open PySem PySem.Spec L2
theorem CO.lst {K : KX} {Z : Hp} {al : List Addr} {a : Addr} {o : HO} {ds : List D} (c : CO K Z al a o (.lst ds)) : ∃ xs, o = .lst xs /\ DVs K Z al xs ds := by
  cases o with
  | lst xs => exact ⟨xs, rfl, c⟩
  | _ => exact (show False from c).elim
end MI
namespace MI
open PySem PySem.Spec L2
end MI
namespace MI
open PySem PySem.Spec L2
end MI
namespace MI
open PySem PySem.Spec L2
end MI
namespace MI
open PySem PySem.Spec L2
abbrev Fn := List D -> Sto -> Option (D × Sto)
end MI
namespace MI
open PySem PySem.Spec L2
mutual
inductive KAt (K : PySem.W.Frag) (H : Hp) : V -> NestedKey -> Prop
  | non : KAt K H .non .none
  | int (i : Int) : KAt K H (.int i) (.num i)
  | str (x : Str) : KAt K H (.str x) (.text x)
  | tup {a : Addr} {xs : List V} {ks : List NestedKey} : SqT K H a xs -> KAtAll K H xs ks -> KAt K H (.ref a) (.tup ks)
inductive KAtAll (K : PySem.W.Frag) (H : Hp) : List V -> List NestedKey -> Prop
  | nil : KAtAll K H [] []
  | cons {v : V} {vs : List V} {k : NestedKey} {ks : List NestedKey} : KAt K H v k -> KAtAll K H vs ks -> KAtAll K H (v :: vs) (k :: ks)
end
section
variable {X : Cx} {pins : List (Addr × Obj)} {σ : St} {H : Hp} {s : Shared}
mutual
theorem KAt.is (I : Inv X pins σ H s) : ∀ (k : NestedKey) (v : V) (u : Value), KAt X.K H v k -> RelV v u -> NestedIs s.heap k u
  | .none, _, _, h, r => by cases h; cases r; exact .none
  | .num i, _, _, h, r => by cases h; obtain ⟨t, rfl⟩ := r; exact .int _ _
  | .text i, _, _, h, r => by cases h; obtain ⟨t, rfl⟩ := r; exact .text _ _
  | .tup ks, _, _, h, r => by
    cases h with
    | tup h1 h2 =>
      cases r
      obtain ⟨its, rv, ⟨o, e1, e2, n, e3⟩, _⟩ := I.tuple h1
      exact .tup e1 e2 e3 (by simpa using KAtAll.is I ks _ its h2 rv)
theorem KAtAll.is (I : Inv X pins σ H s) : ∀ (ks : List NestedKey) (vs : List V) (us : List Value), KAtAll X.K H vs ks -> Vals vs us -> NestedAll s.heap ks us
  | [], _, _, h, r => by cases h; cases r; exact .nil
  | k :: ks, _, _, h, r => by
    cases h with
    | cons h1 h2 => cases r with
      | cons r1 r2 => exact .cons (KAt.is I k _ _ h1 r1) (KAtAll.is I ks _ _ h2 r2)
end
structure DNat (K : KX) (H : Hp) (a : Addr) (o : Obj) (xs : XS) : Prop where
  at_ : H a = some (hoN a o)
  raw : RawN K a o xs
  keys : KAtAll K.K H (xs.map fun x => V.ref x.2.1) (xs.map (·.1))
theorem KAtAll.mem : ∀ {xs : XS}, KAtAll X.K H (xs.map fun x => V.ref x.2.1) (xs.map (·.1)) -> ∀ x ∈ xs, KAt X.K H (.ref x.2.1) x.1
  | [], _, x, hx => by cases hx
  | y :: ys, h, x, hx => by
    cases h with
    | cons h1 h2 =>
      rcases List.mem_cons.mp hx with rfl | hx
      · exact h1
      · exact KAtAll.mem h2 x hx
theorem DNat.dict {a : Addr} {o : Obj} {xs : XS} (d : DNat X.kx H a o xs) (I : Inv X pins σ H s) : s.heap.DictOfH (nestedKind X.prog X.w) a xs := by
  obtain ⟨es, ep, e1, e2⟩ := d.raw.ent
  have h0 : s.heap.get? a = some o := (I.hok a _ d.at_).1
  refine ⟨o, es, ep, h0, d.raw.exact', e1, e2, fun x hx => ⟨KAt.is I x.1 _ _ (KAtAll.mem d.keys x hx) rfl, d.raw.dp x hx⟩, d.raw.nd⟩
end
end MI
namespace MI
open PySem PySem.Spec L2
end MI
namespace MI
open PySem PySem.Spec L2
end MI
namespace MI
open PySem PySem.Spec L2
end MI
namespace MI
open PySem PySem.Spec L2
end MI
namespace MI
open PySem PySem.Spec L2
end MI
namespace MI
open PySem PySem.Spec L2
section
variable {cls : Nat -> Addr} {own : Nat -> Bool} {K : KX} {G : Gh} {al : List Addr} {m : MS} {σ : St} {H : Hp}
theorem DVs.zip {Z : Hp} : ∀ {vs : List V} {ds : List D}, DVs K Z al vs ds -> (vs.zip ds).map Prod.fst = vs /\ (vs.zip ds).map Prod.snd = ds /\ ∀ b ∈ vs.zip ds, DV K Z al b.1 b.2
  | _, _, .nil => ⟨rfl, rfl, fun b h => by cases h⟩
  | _, _, .cons h r => by
    obtain ⟨i1, i2, i3⟩ := DVs.zip r
    refine ⟨by simp [i1], by simp [i2], fun b hb => ?_⟩
    rcases List.mem_cons.mp hb with rfl | hb
    · exact h
    · exact i3 b hb
end
end MI
namespace MI
open PySem PySem.Spec L2
end MI
namespace MI
open PySem PySem.Spec L2
def datB (K : PySem.W.Frag) : Nat -> Value -> D -> Bool
  | n + 1, .ref a, .tup ds => match K.lookup a with
    | some ⟨.type c, none, .seq its _, _⟩ => decide (c = "tuple") && (decide (its.size <= sizeLine) && (decide (its.toList.length = ds.length) && (its.toList.zip ds).all fun p => datB K n p.1 p.2))
    | _ => false
  | _, .none, .non => true
  | _, .bool b, .bl c => b == c
  | _, .int i _, .int j => decide (i = j)
  | _, .str x _, .str y => decide (x = y)
  | _, _, _ => false
def gcB (gc : List (Str × D)) (K : PySem.W.Frag) : Bool := gc.all fun q => match PySem.W.nsIn K mainGlobals q.1 with
  | some (some u) => datB K 8 u q.2
  | _ => false
abbrev AlM : Type := He.AlD × Bool
def obsM (n : Nat) (fa : List He.Fa) (fn : List He.DefD) (ex : PySem.W.Frag -> Bool) (g : Addr -> Option Obj) : AlM := (He.obsD fa fn (He.frG g (He.asD g n)), ex (He.frG g (He.asD g n)))
def hookM (n : Nat) (fa : List He.Fa) (fn : List He.DefD) (ex : PySem.W.Frag -> Bool) : PySem.W.Hook where
  α := AlM
  obs := fun s => obsM n fa fn ex s.heap.get?
  val := fun _ => (He.valD fn, true)
  says := fun _ h => ∃ K : PySem.W.Frag, K.In h /\ He.SaysD fa fn K /\ ex K = true
  of := fun _ _ e => ⟨_, He.frG_in, congrArg Prod.fst e, congrArg Prod.snd e⟩
  keeps := fun _ _ _ ⟨K, hK, c, d⟩ k => ⟨K, PySem.W.Frag.In.keeps hK k, c, d⟩
section
variable {cls : Nat -> Addr} {own : Nat -> Bool} {X : Cx} {pos : Pos} {i : Nat} {x : Str} {d : D}
theorem xs (hN : X.N[i]? = some x := by rfl) (hv : Vis X.env.scope x := by first | exact .inl rfl | exact .inr (.inl rfl) | exact .inr (.inr rfl)) (ho : own i = true := by rfl) (hd : (x == ("__debug__" : Str)) = false := by decide) (hcd : (x == ("__classdict__" : Str)) = false := by decide) :
    SH cls own X (.Name x pos) (hSlot i) := sh_slot hN hv ho hd hcd
end
end MI
namespace MI
open PySem PySem.Spec L2
end MI
namespace MI
open PySem PySem.Spec L2
end MI
namespace MI
open PySem PySem.Spec L2
inductive MxVs (K : KX) (G0 G : Gh) (al : List Addr) : List Bool -> List V -> List D -> Prop
  | nil : MxVs K G0 G al [] [] []
  | val {v : V} {d : D} {ks : List Bool} {vs : List V} {ds : List D} : DV K (Zof G) al v d -> MxVs K G0 G al ks vs ds -> MxVs K G0 G al (false :: ks) (v :: vs) (d :: ds)
  | new {p : Addr} {o : HO} {d : D} {ks : List Bool} {vs : List V} {ds : List D} : G p = some (.frm, o) -> (∀ u, G0 p ≠ some (.frm, u)) -> CO K (Zof G) al p o d -> MxVs K G0 G al ks vs ds -> MxVs K G0 G al (true :: ks) (.ref p :: vs) (d :: ds)
section
variable {cls : Nat -> Addr} {own : Nat -> Bool} {X : Cx} {a b c : Expr} {es ts : List Expr} {fs : Den (List D)} {ks : List Bool} {px py pz pt pos : Pos} {kt k2 : Nat} {pt2 : Pos} {i j l : Nat} {x y z : Str} {is : List Nat}
theorem MxVs.length {K : KX} {G0 G : Gh} {al : List Addr} {ks : List Bool} {vs : List V} {ds : List D} (h : MxVs K G0 G al ks vs ds) : vs.length = ds.length := by
  induction h with
  | nil => rfl
  | val _ _ ih => rw [List.length_cons, List.length_cons, ih]
  | new _ _ _ _ ih => rw [List.length_cons, List.length_cons, ih]
end
end MI
namespace MI
open PySem PySem.Spec L2
end MI
namespace MI
open PySem PySem.Spec L2
end MI
namespace MI
open PySem PySem.Spec L2
end MI
namespace MI
open PySem PySem.Spec L2
end MI
namespace MI
open PySem PySem.Spec L2
end MI
namespace MI
open PySem PySem.Spec L2
end MI
namespace MI
open PySem PySem.Spec L2
end MI
namespace MI
open PySem PySem.Spec L2
theorem log2_le {i : Int} {k : Nat} (h1 : -(2 ^ k) < i) (h2 : i < 2 ^ k) : i.natAbs.log2 <= k := by
  by_cases z : i.natAbs = 0
  · rw [z, Nat.log2_zero]; exact Nat.zero_le _
  · refine Nat.le_of_lt ((Nat.log2_lt z).mpr ?_)
    have e : ((2 ^ k : Nat) : Int) = 2 ^ k := by norm_cast
    omega
structure Hand (st : Sto) (n : Nat) (g c t : Int) : Prop where
  at_ : st[n]? = some (.lst [.int g, .int c, .int t])
  g0 : 0 <= g
  c0 : 0 <= c
  c1 : c < 2 ^ 64
  t0 : 0 <= t
end MI
namespace MI
open PySem PySem.Spec L2 PySem.Builtin.Str
def lowS (x : Str) : Bool := x.cps.toList.all fun c => decide (32 <= c /\ c <= 126 /\ c ≠ 39 /\ c ≠ 92)
mutual
def nic : PyData -> Bool
  | .none | .bool _ => true
  | .int i => decide (i.natAbs.log2 < 1920)
  | .str x => lowS x
  | .list xs | .tuple xs => nics xs
  | .dict _ => false
def nics : List PyData -> Bool
  | [] => true
  | x :: xs => nic x && nics xs
end
end MI
namespace MI
open PySem PySem.Spec L2
end MI
namespace MI
open PySem PySem.Spec L2 PyProof.Rows
end MI
namespace MI
open PySem PySem.Spec L2
def RD (n b : Nat) (d : D) : Prop := ∃ p, toPy d = some p /\ nic p = true /\ p.depth <= n /\ p.bulk <= b
theorem RD.int {i : Int} (h1 : -(2 ^ 200) < i) (h2 : i < 2 ^ 200) {n b : Nat} : RD n b (.int i) := by
  have := log2_le h1 h2
  exact ⟨.int i, by rw [toPy], by rw [nic]; exact decide_eq_true (by omega), by rw [PyData.depth]; exact Nat.zero_le _, by rw [PyData.bulk]; exact Nat.zero_le _⟩
theorem RDs {n b : Nat} : ∀ {ds : List D}, (∀ d ∈ ds, RD n b d) -> ∃ ps, toPys ds = some ps /\ nics ps = true /\ PyData.depthAll ps <= n /\ PyData.bulkAll ps <= (b + 1) * ds.length
  | [], _ => ⟨[], by rw [toPys], by rw [nics], by rw [PyData.depthAll]; exact Nat.zero_le _, by rw [PyData.bulkAll]; exact Nat.zero_le _⟩
  | d :: ds, h => by
    obtain ⟨p, e, h1, h2, h3⟩ := h d (List.mem_cons_self ..)
    obtain ⟨ps, f, g1, g2, g3⟩ := RDs (ds := ds) fun x hx => h x (List.mem_cons_of_mem _ hx)
    refine ⟨p :: ps, by rw [toPys, e, f], by rw [nics, h1, g1]; rfl, by rw [PyData.depthAll]; omega, ?_⟩
    rw [PyData.bulkAll, List.length_cons, Nat.mul_add]
    omega
theorem RD.tup {n b l : Nat} {ds : List D} (h : ∀ d ∈ ds, RD n b d) (hl : ds.length <= l) : RD (n + 1) ((b + 1) * l) (.tup ds) := by
  obtain ⟨ps, f, g1, g2, g3⟩ := RDs h
  refine ⟨.tuple ps, by rw [toPy, f]; rfl, by rw [nic]; exact g1, by rw [PyData.depth]; omega, ?_⟩
  rw [PyData.bulk]
  exact Nat.le_trans g3 (Nat.mul_le_mul_left _ hl)
theorem RD.mono {n b n' b' : Nat} {d : D} (h : RD n b d) (hn : n <= n') (hb : b <= b') : RD n' b' d := by
  obtain ⟨p, e, h1, h2, h3⟩ := h
  exact ⟨p, e, h1, Nat.le_trans h2 hn, Nat.le_trans h3 hb⟩
mutual
def noB : PyData -> Bool
  | .bool _ => false
  | .list xs | .tuple xs => noBs xs
  | .dict _ => false
  | .none | .int _ | .str _ => true
def noBs : List PyData -> Bool
  | [] => true
  | x :: xs => noB x && noBs xs
end
def RN (n b : Nat) (d : D) : Prop := ∃ p, toPy d = some p /\ nic p = true /\ p.depth <= n /\ p.bulk <= b /\ noB p = true
theorem RN.rd {n b : Nat} {d : D} (h : RN n b d) : RD n b d := by obtain ⟨p, e, h1, h2, h3, _⟩ := h; exact ⟨p, e, h1, h2, h3⟩
theorem RN.int {i : Int} (h1 : -(2 ^ 200) < i) (h2 : i < 2 ^ 200) {n b : Nat} : RN n b (.int i) := by
  obtain ⟨p, e, g1, g2, g3⟩ := RD.int h1 h2 (n := n) (b := b)
  rw [toPy] at e; cases e
  exact ⟨.int i, by rw [toPy], g1, g2, g3, by rw [noB]⟩
theorem RNs {n b : Nat} : ∀ {ds : List D}, (∀ d ∈ ds, RN n b d) -> ∃ ps, toPys ds = some ps /\ noBs ps = true
  | [], _ => ⟨[], by rw [toPys], by rw [noBs]⟩
  | d :: ds, h => by
    obtain ⟨p, e, h1, h2, h3, h4⟩ := h d (List.mem_cons_self ..)
    obtain ⟨ps, f, g1⟩ := RNs (ds := ds) fun x hx => h x (List.mem_cons_of_mem _ hx)
    exact ⟨p :: ps, by rw [toPys, e, f], by rw [noBs, h4, g1]; rfl⟩
theorem RN.tup {n b l : Nat} {ds : List D} (h : ∀ d ∈ ds, RN n b d) (hl : ds.length <= l) : RN (n + 1) ((b + 1) * l) (.tup ds) := by
  obtain ⟨p, e, g1, g2, g3⟩ := RD.tup (fun d hd => (h d hd).rd) hl
  obtain ⟨ps, f, g4⟩ := RNs h
  rw [toPy, f] at e
  cases e
  exact ⟨.tuple ps, by rw [toPy, f]; rfl, g1, g2, g3, by rw [noB]; exact g4⟩
theorem RN.mono {n b n' b' : Nat} {d : D} (h : RN n b d) (hn : n <= n') (hb : b <= b') : RN n' b' d := by
  obtain ⟨p, e, h1, h2, h3, h4⟩ := h
  exact ⟨p, e, h1, Nat.le_trans h2 hn, Nat.le_trans h3 hb, h4⟩
end MI
namespace MI
open PySem PySem.Spec L2
end MI
namespace MI
open PySem PySem.Spec L2 PyProof.Rows
end MI
namespace MI
open PySem PySem.Spec L2
end MI
namespace MI
open PySem PySem.Spec L2
def HB (st : Sto) (n N : Nat) : Prop := ∃ g c t, Hand st n g c t /\ t <= (N : Int)
theorem HB.mono {st : Sto} {n N N' : Nat} (h : HB st n N) (hN : N <= N') : HB st n N' := by
  obtain ⟨g, c, t, H, ht⟩ := h
  exact ⟨g, c, t, H, by omega⟩
end MI
namespace MI
open PySem PySem.Spec L2
end MI
namespace MI
open PySem PySem.Spec L2
end MI
namespace MI
open PySem PySem.Spec L2
end MI
namespace MI
open PySem PySem.Spec L2
end MI
namespace MI
open PySem PySem.Spec L2
structure W {α : Type} (f : Den α) (m : MS) (Q : α -> MS -> Prop) : Prop where
  ex : ∃ a m', f m = .ok a m' /\ Q a m'
structure FS (f : Fn) (ds : List D) (st : Sto) (P : D -> Sto -> Prop) : Prop where
  ex : ∃ d st', f ds st = some (d, st') /\ P d st'
section
variable {α β : Type} {m : MS} {Q : α -> MS -> Prop}
theorem W.mono {f : Den α} {Q' : α -> MS -> Prop} (h : W f m Q) (i : ∀ a m', Q a m' -> Q' a m') : W f m Q' := by
  obtain ⟨a, m', e, q⟩ := h
  exact ⟨a, m', e, i a m' q⟩
theorem FS.mono {f : Fn} {ds : List D} {st : Sto} {P P' : D -> Sto -> Prop} (h : FS f ds st P) (i : ∀ d st', P d st' -> P' d st') : FS f ds st P' := by
  obtain ⟨a, m', e, q⟩ := h
  exact ⟨a, m', e, i a m' q⟩
end
end MI
namespace MI
open PySem PySem.Spec L2
def Kd (n : Nat) (d : D) : Prop := ∃ b, RN n b d
theorem RN.str {x : Str} (h : lowS x = true) {n : Nat} : RN n x.cps.size (.str x) := ⟨.str x, by rw [toPy], by rw [nic]; exact h, by rw [PyData.depth]; exact Nat.zero_le _, by rw [PyData.bulk]; exact Nat.le_refl _, by rw [noB]⟩
theorem Kd.str {x : Str} (h : lowS x = true) {n : Nat} : Kd n (.str x) := ⟨_, RN.str h⟩
theorem Kd.int {i : Int} (h1 : -(2 ^ 200) < i) (h2 : i < 2 ^ 200) {n : Nat} : Kd n (.int i) := ⟨0, RN.int h1 h2⟩
theorem Kd.mono {n k : Nat} {d : D} (h : Kd n d) (hn : n <= k) : Kd k d := by obtain ⟨b, h⟩ := h; exact ⟨b, h.mono hn (Nat.le_refl _)⟩
theorem kd_max {n : Nat} : ∀ {ds : List D}, (∀ d ∈ ds, Kd n d) -> ∃ b, ∀ d ∈ ds, RN n b d
  | [], _ => ⟨0, fun d h => by cases h⟩
  | d :: ds, h => by
    obtain ⟨b, hb⟩ := kd_max (ds := ds) fun x hx => h x (List.mem_cons_of_mem _ hx)
    obtain ⟨c, hc⟩ := h d (List.mem_cons_self ..)
    refine ⟨b + c, fun x hx => ?_⟩
    rcases List.mem_cons.mp hx with rfl | hx
    · exact hc.mono (Nat.le_refl _) (by omega)
    · exact (hb x hx).mono (Nat.le_refl _) (by omega)
theorem Kd.tup {n : Nat} {ds : List D} (h : ∀ d ∈ ds, Kd n d) : Kd (n + 1) (.tup ds) := by
  obtain ⟨b, hb⟩ := kd_max h
  exact ⟨_, RN.tup hb (Nat.le_refl _)⟩
end MI
namespace MI
open PySem PySem.Spec L2
end MI
namespace MI
open PySem PySem.Spec L2
end MI
namespace MI
open PySem PySem.Spec L2
end MI
namespace MI
open PySem PySem.Spec L2
end MI
namespace MI
open PySem PySem.Spec L2
def dfB (l : List ((PySem.W.Frag -> Addr) × D)) (K : PySem.W.Frag) : Bool := l.all fun q => datB K 8 (.ref (q.1 K)) q.2
end MI
namespace MI
open PySem PySem.Spec L2
end MI
namespace MI
open PySem PySem.Spec L2
end MI
namespace MI
open PySem PySem.Spec L2
end MI
namespace MI
open PySem PySem.Spec L2
end MI
namespace MI
open PySem PySem.Spec L2
end MI
namespace MI
open PySem PySem.Spec L2
end MI
namespace MI
open PySem PySem.Spec L2
end MI
namespace MI
open PySem PySem.Spec L2
end MI
namespace MI
open PySem PySem.Spec L2 PyProof.Rows
end MI
namespace MI
open PySem PySem.Spec L2 PyProof.Rows
end MI
namespace MI
open PySem PySem.Spec L2
end MI
namespace MI
open PySem PySem.Spec L2
end MI
namespace MI
open PySem PySem.Spec L2
end MI
namespace MI
open PySem PySem.Spec L2
end MI
namespace MI
open PySem PySem.Spec L2
end MI
namespace MI
open PySem PySem.Spec L2
end MI
namespace MI
open PySem PySem.Spec L2
end MI
namespace MI
open PySem PySem.Spec L2
end MI
namespace MI
open PySem PySem.Spec L2
end MI
namespace MI
open PySem PySem.Spec L2
end MI
namespace MI
open PySem PySem.Spec L2
end MI
namespace MI
open PySem PySem.Spec L2
end MI
namespace MI
open PySem PySem.Spec L2
end MI
namespace MI
open PySem PySem.Spec L2
end MI
namespace MI
open PySem PySem.Spec L2
end MI
namespace MI
open PySem PySem.Spec L2
end MI
namespace MI
open PySem PySem.Spec L2
end MI
namespace MI
open PySem PySem.Spec L2
end MI
namespace MI
open PySem PySem.Spec L2
end MI
namespace MI
open PySem PySem.Spec L2
end MI
namespace MI
open PySem PySem.Spec L2
end MI
namespace MI
open PySem PySem.Spec L2
end MI
namespace MI
open PySem PySem.Spec L2 PyProof.Rows
end MI
namespace MI
open PySem PySem.Spec L2 PyProof.Rows
section
variable {K : PySem.W.Frag} {C fI : Addr} {f : Str}
def veB (K : PySem.W.Frag) (C : Addr) : Bool := match K.lookup C with
  | some ⟨.type "type", _, .cls cd, sl⟩ => (match cd.mro, sl.toList with
    | .ref D :: r, [_, _, _, _, some (.builtin z), _] => decide (D = C) && (decide (z = "ValueError.__new__") && (!cd.hasDel && (cd.hasDict && HandSPX.refsVE r)))
    | _, _ => false)
  | _ => false
def excB (K : PySem.W.Frag) (C : Addr) : Bool := xfB K C && (decide (PySem.W.findIn K (.ref C) "__class__" = some (some (.builtin "object.__class__"))) && (decide (PySem.W.specialIn K (.builtin "object.__class__") "__get__" = some (some (.builtin "getset_descriptor.__get__"))) &&
  (decide (PySem.W.takesIn K (.builtin "object.__class__") = some true) && decide (PySem.W.mroIn K C (.type "object") = some true))))
def riB (K : PySem.W.Frag) (C : Addr) : Bool := decide (PySem.W.specialIn K (.ref C) "__getattribute__" = some (some (.builtin "type.__getattribute__"))) && (PySem.W.readsIn K C (.type "type") && (match PySem.W.findCls K (.ref C) (.type "type") "__init__" with
  | some (.val (.builtin z)) => decide (z = "ValueError.__init__")
  | _ => false))
def exfB (K : PySem.W.Frag) (C fI : Addr) (f : Str) : Bool := veB K C && (He.eqO (PySem.W.findIn K (.ref C) "__setattr__") (some (some (.builtin "object.__setattr__"))) && (decide (PySem.W.subIn K (.ref C) (.type "BaseException") = some true) &&
  (decide (PySem.W.typeIn K (.ref C) = some (.type "type")) && (PySem.W.keepIn K (.ref C) && (He.eqO (PySem.W.findIn K (.ref C) "__init__") (some (some (.ref fI))) && (decide (PySem.W.typeIn K (.ref fI) = some (.type "function")) &&
  (He.eqO (PySem.W.findIn K (.ref C) f) (some none) && PySem.W.excInitIn K C HandSPX.veTail "ValueError.__new__")))))))
def isB (K : PySem.W.Frag) (cls : Nat -> Addr) (tab : List (Nat × Bool)) (cv : Value) : Bool := decide (PySem.W.kitOne K (.type "NoneType") cv = some false) && tab.all fun q => decide (PySem.W.kitOne K (.ref (cls q.1)) cv = some q.2)
def cxB (K : PySem.W.Frag) (cls : Nat -> Addr) (xs : List Nat) (us : List Value) : Bool := xs.all fun c => decide (PySem.W.exmAny K (.ref (cls c)) us = some true)
end
end MI
namespace MI
open PySem PySem.Spec L2
def obsX (n : Nat) (fa : List He.Fa) (fn : List He.DefD) (ex : PySem.W.Frag -> Bool) (g : Addr -> Option Obj) : AlM := (He.obsD fa fn (He.frG g (cStatics :: He.asD g n)), ex (He.frG g (cStatics :: He.asD g n)))
def hookX (n : Nat) (fa : List He.Fa) (fn : List He.DefD) (ex : PySem.W.Frag -> Bool) : PySem.W.Hook where
  α := AlM
  obs := fun s => obsX n fa fn ex s.heap.get?
  val := fun _ => (He.valD fn, true)
  says := fun _ h => ∃ K : PySem.W.Frag, K.In h /\ He.SaysD fa fn K /\ ex K = true
  of := fun _ _ e => ⟨_, He.frG_in, congrArg Prod.fst e, congrArg Prod.snd e⟩
  keeps := fun _ _ _ ⟨K, hK, c, d⟩ k => ⟨K, PySem.W.Frag.In.keeps hK k, c, d⟩
theorem obsX_eq {n : Nat} {fa : List He.Fa} {fn : List He.DefD} {ex : PySem.W.Frag -> Bool} {g : Addr -> Option Obj} {s : Shared} (h : ∀ a, g a = s.heap.get? a) : obsX n fa fn ex g = (hookX n fa fn ex).obs s := by
  have e : g = s.heap.get? := funext h
  rw [e]
  rfl
end MI
namespace MI
open PySem PySem.Spec L2
end MI
namespace MI
open PySem PySem.Spec L2
end MI
namespace MI
open PySem PySem.Spec L2
end MI
namespace MI
open PySem PySem.Spec L2
end MI
namespace MI
open PySem PySem.Spec L2
end MI
namespace MI
open PySem PySem.Spec L2
end MI
namespace MI
open PySem PySem.Spec L2
end MI
namespace MI
open PySem PySem.Spec L2
end MI
namespace MI
open PySem PySem.Spec L2
end MI
namespace MI
open PySem PySem.Spec L2 PyProof.Rows
end MI
namespace MI
open PySem PySem.Spec L2
end MI
namespace MI
open PySem PySem.Spec L2
end MI
namespace MI
open PySem PySem.Spec L2
end MI
namespace MI
open PySem PySem.Spec L2
end MI
namespace MI
open PySem PySem.Spec L2 PyProof.Rows
end MI
namespace MI
open PySem PySem.Spec L2
end MI
namespace MI
open PySem PySem.Spec L2
end MI
namespace MI
open PySem PySem.Spec L2
end MI
namespace MI
open PySem PySem.Spec L2
end MI
namespace MI
open PySem PySem.Spec L2
end MI
namespace MI
open PySem PySem.Spec L2
end MI
namespace MI
open PySem PySem.Spec PyProof.Rows
end MI
namespace MI
open PySem PySem.Spec L2
end MI
namespace MI
open PySem PySem.Spec L2 PyProof.Rows
end MI
namespace MI
open PySem PySem.Spec L2
end MI
namespace MI
open PySem PySem.Spec L2
end MI
namespace MI
open PySem PySem.Spec L2
variable {K : KX} {cls : Nat -> Addr} {own : Nat -> Bool}
end MI
namespace MI
open PySem PySem.Spec L2
end MI
namespace MI
open PySem PySem.Spec L2
end MI
namespace MI
open PySem PySem.Spec L2 PyProof.Rows
end MI
namespace MI
open PySem PySem.Spec L2
end MI
namespace MI
open PySem PySem.Spec L2 PyProof.Rows
end MI
namespace MI
open PySem PySem.Spec L2 PyProof.Rows
end MI
namespace MI
open PySem PySem.Spec L2 PyProof.Rows
end MI
namespace MI
open PySem PySem.Spec L2 PyProof.Rows
end MI
namespace MI
open PySem PySem.Spec L2 PyProof.Rows
end MI
namespace MI
open PySem PySem.Spec L2 PyProof.Rows
end MI
namespace MI
open PySem PySem.Spec L2 PyProof.Rows
end MI
namespace MI
open PySem PySem.Spec L2 PyProof.Rows
end MI
namespace MI
open PySem PySem.Spec L2
end MI
namespace MI
open PySem PySem.Spec L2 PyProof.Rows
end MI
namespace MI
open PySem PySem.Spec L2
end MI
namespace MI
open PySem PySem.Spec L2
end MI
namespace MI
open PySem PySem.Spec L2 PyProof.Rows
end MI
namespace Lk77
open PySem PySem.Spec L2 MI
def top (i : Nat) : Stmt := PySem.Challenge.pw_strangeseats_k77_histories_as_texts.main.body.getD i (.Pass ⟨0, 0, 0, 0⟩)
abbrev st_is_number : Stmt := top 9
abbrev st_is_name : Stmt := top 10
abbrev st_World__called : Stmt := (C8.clsBody (top 12)).getD 1 (.Pass ⟨0, 0, 0, 0⟩)
abbrev st_show_letter : Stmt := top 17
abbrev st_read_number : Stmt := top 19
abbrev st__law_hand : Stmt := top 24
abbrev st__law_take : Stmt := top 25
abbrev st__law_called : Stmt := top 28
abbrev st__law_number : Stmt := top 31
abbrev st__law_row : Stmt := top 32
abbrev st_World__join : Stmt := (C8.clsBody (top 12)).getD 3 (.Pass ⟨0, 0, 0, 0⟩)
abbrev st_is_letter_in : Stmt := top 14
abbrev st_show_history : Stmt := top 18
abbrev st_read_numbers : Stmt := top 20
abbrev st__law_pick : Stmt := top 26
abbrev st__law_read : Stmt := top 33
abbrev st_World____init__ : Stmt := (C8.clsBody (top 12)).getD 0 (.Pass ⟨0, 0, 0, 0⟩)
abbrev st_read_letter : Stmt := top 21
abbrev st__law_words : Stmt := top 27
abbrev st__law_letter : Stmt := top 29
abbrev st__law_spoilt : Stmt := top 34
abbrev st__law_history : Stmt := top 30
abbrev st_read_history : Stmt := top 22
abbrev st__law_read_right : Stmt := top 35
abbrev st__law_right : Stmt := top 36
abbrev st_law : Stmt := top 37
abbrev st_NoText____init__ : Stmt := (C8.clsBody (top 5)).getD 0 (.Pass ⟨0, 0, 0, 0⟩)
local macro_rules | `(tactic| ac_nf) => `(tactic| first | exact .inl rfl | exact .inr rfl | exact .inr (.inl rfl) | exact .inr (.inr rfl))
def dd_is_number : He.DefD := ⟨("is_number", none), "is_number", "is_number", defArgs st_is_number, defBody st_is_number, defScope st_is_number, [], [("least", .int 0)]⟩
def dd_is_name : He.DefD := ⟨("is_name", none), "is_name", "is_name", defArgs st_is_name, defBody st_is_name, defScope st_is_name, [], []⟩
def dd_World__called : He.DefD := ⟨("World", some "called"), "called", "World.called", defArgs st_World__called, defBody st_World__called, defScope st_World__called, [], []⟩
def dd_show_letter : He.DefD := ⟨("show_letter", none), "show_letter", "show_letter", defArgs st_show_letter, defBody st_show_letter, defScope st_show_letter, [], []⟩
def dd_read_number : He.DefD := ⟨("read_number", none), "read_number", "read_number", defArgs st_read_number, defBody st_read_number, defScope st_read_number, [], []⟩
def dd__law_hand : He.DefD := ⟨("_law_hand", none), "_law_hand", "_law_hand", defArgs st__law_hand, defBody st__law_hand, defScope st__law_hand, [], []⟩
def dd__law_take : He.DefD := ⟨("_law_take", none), "_law_take", "_law_take", defArgs st__law_take, defBody st__law_take, defScope st__law_take, [], []⟩
def dd__law_called : He.DefD := ⟨("_law_called", none), "_law_called", "_law_called", defArgs st__law_called, defBody st__law_called, defScope st__law_called, [], []⟩
def dd__law_number : He.DefD := ⟨("_law_number", none), "_law_number", "_law_number", defArgs st__law_number, defBody st__law_number, defScope st__law_number, [], []⟩
def dd__law_row : He.DefD := ⟨("_law_row", none), "_law_row", "_law_row", defArgs st__law_row, defBody st__law_row, defScope st__law_row, [], []⟩
def dd_World__join : He.DefD := ⟨("World", some "join"), "join", "World.join", defArgs st_World__join, defBody st_World__join, defScope st_World__join, [], []⟩
def dd_is_letter_in : He.DefD := ⟨("is_letter_in", none), "is_letter_in", "is_letter_in", defArgs st_is_letter_in, defBody st_is_letter_in, defScope st_is_letter_in, [], []⟩
def dd_show_history : He.DefD := ⟨("show_history", none), "show_history", "show_history", defArgs st_show_history, defBody st_show_history, defScope st_show_history, [], []⟩
def dd_read_numbers : He.DefD := ⟨("read_numbers", none), "read_numbers", "read_numbers", defArgs st_read_numbers, defBody st_read_numbers, defScope st_read_numbers, [], []⟩
def dd__law_pick : He.DefD := ⟨("_law_pick", none), "_law_pick", "_law_pick", defArgs st__law_pick, defBody st__law_pick, defScope st__law_pick, [], []⟩
def dd__law_read : He.DefD := ⟨("_law_read", none), "_law_read", "_law_read", defArgs st__law_read, defBody st__law_read, defScope st__law_read, [], []⟩
def dd_World____init__ : He.DefD := ⟨("World", some "__init__"), "__init__", "World.__init__", defArgs st_World____init__, defBody st_World____init__, defScope st_World____init__, [.adr (He.dflAt ("World", some "__init__") 0)], []⟩
def dd_read_letter : He.DefD := ⟨("read_letter", none), "read_letter", "read_letter", defArgs st_read_letter, defBody st_read_letter, defScope st_read_letter, [], []⟩
def dd__law_words : He.DefD := ⟨("_law_words", none), "_law_words", "_law_words", defArgs st__law_words, defBody st__law_words, defScope st__law_words, [], []⟩
def dd__law_letter : He.DefD := ⟨("_law_letter", none), "_law_letter", "_law_letter", defArgs st__law_letter, defBody st__law_letter, defScope st__law_letter, [], []⟩
def dd__law_spoilt : He.DefD := ⟨("_law_spoilt", none), "_law_spoilt", "_law_spoilt", defArgs st__law_spoilt, defBody st__law_spoilt, defScope st__law_spoilt, [], []⟩
def dd__law_history : He.DefD := ⟨("_law_history", none), "_law_history", "_law_history", defArgs st__law_history, defBody st__law_history, defScope st__law_history, [], []⟩
def dd_read_history : He.DefD := ⟨("read_history", none), "read_history", "read_history", defArgs st_read_history, defBody st_read_history, defScope st_read_history, [], []⟩
def dd__law_read_right : He.DefD := ⟨("_law_read_right", none), "_law_read_right", "_law_read_right", defArgs st__law_read_right, defBody st__law_read_right, defScope st__law_read_right, [], []⟩
def dd__law_right : He.DefD := ⟨("_law_right", none), "_law_right", "_law_right", defArgs st__law_right, defBody st__law_right, defScope st__law_right, [], []⟩
def dd_law : He.DefD := ⟨("law", none), "law", "law", defArgs st_law, defBody st_law, defScope st_law, [], []⟩
def dd_NoText____init__ : He.DefD := ⟨("NoText", some "__init__"), "__init__", "NoText.__init__", defArgs st_NoText____init__, defBody st_NoText____init__, defScope st_NoText____init__, [], []⟩
def fns : List He.DefD := [dd_is_number, dd_is_name, dd_World__called, dd_show_letter, dd_read_number, dd__law_hand, dd__law_take, dd__law_called, dd__law_number, dd__law_row, dd_World__join, dd_is_letter_in, dd_show_history, dd_read_numbers, dd__law_pick, dd__law_read, dd_World____init__, dd_read_letter, dd__law_words, dd__law_letter, dd__law_spoilt, dd__law_history, dd_read_history, dd__law_read_right, dd__law_right, dd_law, dd_NoText____init__]
def fas : List He.Fa := [.glo "is_number", .glo "is_name", .glo "show_letter", .glo "read_number", .glo "_law_hand", .glo "_law_take", .glo "_law_called", .glo "_law_number", .glo "_law_row", .glo "is_letter_in", .glo "show_history", .glo "read_numbers", .glo "_law_pick", .glo "_law_read", .glo "read_letter", .glo "_law_words", .glo "_law_letter", .glo "_law_spoilt", .glo "_law_history", .glo "read_history", .glo "_law_read_right", .glo "_law_right", .glo "law", .free "ValueError", .free "abs", .free "all", .free "bool", .free "enumerate", .free "int", .free "isinstance", .free "len", .free "max", .free "min", .free "range", .free "repr", .free "set", .free "sorted", .free "str", .free "tuple", .glo "World", .cls "World", .mkr "World", .noat "World" "done", .noat "World" "leads", .meth "World" "called", .meth "World" "join", .glo "Missing", .glo "NoText", .glo "Refused"]
def gcs : List (Str × D) := [("FIGURES", (.str "0123456789")), ("JOIN", (.str "join")), ("LETTERS", (.str "abcdefghijklmnopqrstuvwxyz"))]
def dfs : List ((PySem.W.Frag -> Addr) × D) := [(He.dflAt ("World", some "__init__") 0, (.tup []))]
def clsF (K : PySem.W.Frag) : Nat -> Addr := fun n => match n with | 0 => He.ga K "World" | 100 => He.ga K "Refused" | 101 => He.ga K "Missing" | 102 => He.ga K "OneHouse" | 103 => He.ga K "NoText" | _ => 0
def xbs (K : PySem.W.Frag) : List Bool := [cxB K (clsF K) [103] [.ref (clsF K 100), .ref (clsF K 101)], isB K (clsF K) [(103, true)] (.ref (clsF K 103)), ([103] : List Nat).all fun c => excB K (clsF K c), ([103] : List Nat).all fun c => excB K (clsF K c) && decide (PySem.W.findIn K (.ref (clsF K c)) "row" = some none), isB K (clsF K) [(103, true)] (.type "ValueError"), exfB K (He.ga K "NoText") (He.fAd K ("NoText", some "__init__")) "row", riB K (He.ga K "Refused")]
abbrev RwR : PySem.W.OpenRow := PySem.W.OpenLaw.row PySem.Challenge.rw_strangeseats_k77_histories_as_texts
def exB (K : PySem.W.Frag) : Bool := gcB gcs K && (dfB dfs K && (xbs K).all id)
abbrev hk : PySem.W.Hook := hookX 8 fas fns exB
def ob (s : PySem.W.SharedT) : AlM := obsX 8 fas fns exB (HandSHeadRun.getT s)
theorem ob_eq (s : PySem.W.SharedT) : ob s = hk.obs s.abs := obsX_eq (HandSHeadRun.getT_eq s)
def loose : List Str := [("_wall" : Str), ("Refused" : Str), ("Missing" : Str), ("OneHouse" : Str), ("NoText" : Str), ("JOIN" : Str), ("LETTERS" : Str), ("is_number" : Str), ("is_name" : Str), ("World" : Str), ("is_letter_in" : Str), ("FIGURES" : Str), ("show_letter" : Str), ("show_history" : Str), ("read_number" : Str), ("read_numbers" : Str), ("read_letter" : Str), ("read_history" : Str), ("_law_hand" : Str), ("_law_take" : Str), ("_law_pick" : Str), ("_law_words" : Str), ("_law_called" : Str), ("_law_letter" : Str), ("_law_history" : Str), ("_law_number" : Str), ("_law_row" : Str), ("_law_read" : Str), ("_law_spoilt" : Str), ("_law_read_right" : Str), ("_law_right" : Str)]
theorem run (w : World) : HandSHeadRun.RunEq RwR (PySem.W.view RwR.prog [37]) hk ob 4000 loose w := by
  intro os
  kernel_rfl
theorem zzClose (F : PySem.W.WalkO (PySem.W.view RwR.prog [37]) loose (PySem.W.XL (PySem.W.view RwR.prog [37]) []) hk.says RwR.toRowW (HandSHeadRun.topDef RwR.prog 37) [] fun f vs => PySem.call f vs) : PySem.Challenge.rw_strangeseats_k77_histories_as_texts.Holds := by
 w_on; o_law
 refine HandSHeadRun.head_any (r := PySem.W.OpenLaw.row PySem.Challenge.rw_strangeseats_k77_histories_as_texts) (q := PySem.W.view (PySem.W.OpenLaw.row PySem.Challenge.rw_strangeseats_k77_histories_as_texts).prog [37]) (H := Lk77.hk) (ob := Lk77.ob) (M := 4000) (loose := Lk77.loose) (d := HandSHeadRun.topDef (PySem.W.OpenLaw.row PySem.Challenge.rw_strangeseats_k77_histories_as_texts).prog 37) (kwd := []) Lk77.ob_eq
    (by kernel_rfl) (fun s => by kernel_rfl) Lk77.run (by kernel_rfl) (by kernel_rfl) (by kernel_rfl) (by rfl) (by first | assumption | decide +kernel) (by decide +kernel) ⟨rfl, rfl, rfl, rfl, rfl, by decide +kernel⟩ ?hw F
 case hw => w_witness2
theorem zzNm : (HandSHeadRun.topDef RwR.prog 37).name = ("law" : PySem.Str) := by kernel_rfl
theorem zzDf : (HandSHeadRun.topDef RwR.prog 37).params.defaults = [] := by kernel_rfl
end Lk77
namespace MI
open PySem PySem.Spec L2
@[inline] def Den.bind {α β : Type} (f : Den α) (g : α -> Den β) : Den β := fun m => match f m with
  | .ok a m' => g a m'
  | .bad => .bad
theorem bind_ok {α β : Type} {f : Den α} {g : α -> Den β} {m : MS} {b : β} {m' : MS} (h : Den.bind f g m = .ok b m') : ∃ a m1, f m = .ok a m1 /\ g a m1 = .ok b m' := by
  unfold Den.bind at h
  cases e : f m with
  | ok a m1 => rw [e] at h; exact ⟨a, m1, rfl, h⟩
  | bad => rw [e] at h; cases h
@[inline] def Den.ret {α : Type} (a : α) : Den α := fun m => .ok a m
@[inline] def Den.opt {α : Type} (o : Option α) : Den α := fun m => match o with
  | some a => .ok a m
  | none => .bad
section
variable {K : KX} {Z Z' : Hp} {al al' : List Addr}
theorem DVs.get : ∀ {vs : List V} {ds : List D} {i : Nat} {d : D}, DVs K Z al vs ds -> ds[i]? = some d -> ∃ v, vs[i]? = some v /\ DV K Z al v d
  | _, _, _, _, .nil, h => by simp at h
  | _, _, 0, _, .cons h _, e => by simp at e; subst e; exact ⟨_, rfl, h⟩
  | _, _, i + 1, _, .cons _ r, e => by
    obtain ⟨v, h1, h2⟩ := DVs.get (i := i) r (by simpa using e)
    exact ⟨v, by simpa using h1, h2⟩
theorem DVs.getV : ∀ {vs : List V} {ds : List D} {i : Nat} {v : V}, DVs K Z al vs ds -> vs[i]? = some v -> ∃ d, ds[i]? = some d /\ DV K Z al v d
  | _, _, _, _, .nil, h => by simp at h
  | _, _, 0, _, .cons h _, e => by simp at e; subst e; exact ⟨_, rfl, h⟩
  | _, _, i + 1, _, .cons _ r, e => by
    obtain ⟨v, h1, h2⟩ := DVs.getV (i := i) r (by simpa using e)
    exact ⟨v, by simpa using h1, h2⟩
theorem DVs.append : ∀ {vs ws : List V} {ds es : List D}, DVs K Z al vs ds -> DVs K Z al ws es -> DVs K Z al (vs ++ ws) (ds ++ es)
  | _, _, _, _, .nil, s => s
  | _, _, _, _, .cons h r, s => .cons h (DVs.append r s)
theorem DVs.take : ∀ {vs : List V} {ds : List D} (n : Nat), DVs K Z al vs ds -> DVs K Z al (vs.take n) (ds.take n)
  | _, _, 0, _ => .nil
  | _, _, _ + 1, .nil => .nil
  | _, _, n + 1, .cons h r => .cons h (DVs.take n r)
theorem DVs.drop : ∀ {vs : List V} {ds : List D} (n : Nat), DVs K Z al vs ds -> DVs K Z al (vs.drop n) (ds.drop n)
  | _, _, 0, r => r
  | _, _, _ + 1, .nil => .nil
  | _, _, n + 1, .cons _ r => DVs.drop n r
end
theorem Ev.trans {G G1 G2 : Gh} {al al1 al2 : List Addr} (a : Ev G al G1 al1) (b : Ev G1 al1 G2 al2) : Ev G al G2 al2 :=
  ⟨fun x o h => b.frz x o (a.frz x o h), fun x o h => b.frm x o (a.frm x o h), a.al.trans b.al⟩
theorem EvZ.trans {G G1 G2 : Gh} {al al1 al2 : List Addr} (a : EvZ G al G1 al1) (b : EvZ G1 al1 G2 al2) : EvZ G al G2 al2 := ⟨fun x o h => b.frz x o (a.frz x o h), a.al.trans b.al⟩
theorem DVs.evz {K : KX} {G G' : Gh} {al al' : List Addr} {v : List V} {d : List D} (h : DVs K (Zof G) al v d) (e : EvZ G al G' al') : DVs K (Zof G') al' v d := h.mono e.same e.al
theorem DV.evz {K : KX} {G G' : Gh} {al al' : List Addr} {v : V} {d : D} (h : DV K (Zof G) al v d) (e : EvZ G al G' al') : DV K (Zof G') al' v d := h.mono e.same e.al
theorem Hst.zh {K : KX} {cls : Nat -> Addr} {G : Gh} {al : List Addr} {st : Sto} {H : Hp} (h : Hst K cls G al st H) : Same (Zof G) H := fun a o e => h.gh a _ o (of_zof e)
theorem Rst.zh {K : KX} {cls : Nat -> Addr} {own : Nat -> Bool} {G : Gh} {al : List Addr} {m : MS} {σ : St} {H : Hp} (h : Rst K cls own G al m σ H) : Same (Zof G) H := h.hst.zh
def tD (K : KX) (cls : Nat -> Addr) (own : Nat -> Bool) (f : Den D) : TE := fun σ H Q => ∃ G al m d m', Rst K cls own G al m σ H /\ f m = .ok d m' /\
  ∀ G' al' v H', Ev G al G' al' -> Rst K cls own G' al' m' σ H' -> DV K (Zof G') al' v d -> Q v H'
def tDb (K : KX) (cls : Nat -> Addr) (own : Nat -> Bool) (f : Den Bool) : TT := fun σ H Q => ∃ G al m d m', Rst K cls own G al m σ H /\ f m = .ok d m' /\
  ∀ G' al' H', Ev G al G' al' -> Rst K cls own G' al' m' σ H' -> Q d H'
end MI
namespace MI
open PySem PySem.Spec L2
theorem pt_imp {X : Cx} {e : Expr} {t t' : TT} (h : PT X e t) (i : ∀ σ H Q, t' σ H Q -> t σ H Q) : PT X e t' := ⟨fun pins s σ H Q I q => h.run pins s σ H Q I (i σ H Q q)⟩
theorem pa_imp {X : Cx} {e : List Expr} {t t' : TA} (h : PA X e t) (i : ∀ σ H Q, t' σ H Q -> t σ H Q) : PA X e t' := ⟨fun pos pins s σ H Q I q => h.run pos pins s σ H Q I (i σ H Q q)⟩
theorem ps_imp {X : Cx} {e : Stmt} {t t' : TS} (h : PS X e t) (i : ∀ D σ H, t' D σ H -> t D σ H) : PS X e t' := ⟨fun pins s σ H D I q => h.run pins s σ H D I (i D σ H q)⟩
theorem pss_imp {X : Cx} {e : List Stmt} {t t' : TS} (h : PSs X e t) (i : ∀ D σ H, t' D σ H -> t D σ H) : PSs X e t' := ⟨fun pins s σ H D I q => h.run pins s σ H D I (i D σ H q)⟩
def look : Hd -> MS -> Option D
  | .slot i, m => match m.sl[i]? with
    | some (some d) => some d
    | _ => none
  | .val (.obj n), m => match m.st[n]? with
    | some (.lst ds) => some (.lst ds)
    | some (.dic kvs) => some (.dic kvs)
    | some (.dit kvs) => some (.dit kvs)
    | some (.ins _ _) => some (.obj n)
    | some (.exc _ _) => some (.obj n)
    | some (.tab _ _) => none
    | some .gone => none
    | none => none
  | .val d, _ => some d
theorem DV.cr {K : KX} {H Z : Hp} {al : List Addr} {v : V} {d : D} (s : Same Z H) (h : DV K Z al v d) : CR K H Z al v d := by
  cases d with
  | lst ds => cases h with | lst h r => exact ⟨_, _, rfl, s _ _ h, r⟩
  | dic ds => cases h with
    | dicK h e r => exact ⟨_, _, rfl, Same.rd s h, e, r⟩
  | dit ds => cases h with
    | ditN h1 h2 h3 h4 h5 h6 => exact ⟨_, _, _, _, rfl, s _ _ h1, h2, h3, h4, h5, h6⟩
  | _ => exact h
theorem CO.cr {K : KX} {H Z : Hp} {al : List Addr} {a : Addr} {o : HO} {d : D} (h : H a = some o) (c : CO K Z al a o d) : CR K H Z al (.ref a) d := by
  unfold CO at c
  split at c
  · exact ⟨_, _, rfl, h, c⟩
  · obtain ⟨o, xs, vs, rfl, h2, h3, h4, h5, h6⟩ := c
    exact ⟨a, o, xs, vs, rfl, h, h2, h3, h4, h5, h6⟩
  · exact ⟨_, _, rfl, .inl h, c.1, c.2⟩
  · exact c.elim
theorem look_cr {K : KX} {cls : Nat -> Addr} {own : Nat -> Bool} {G : Gh} {al : List Addr} {m : MS} {σ : St} {H : Hp} {v : V} {h : Hd} {d : D} (r : Rst K cls own G al m σ H) (hv : HV K own G al σ v h) (e : look h m = some d) :
    CR K H (Zof G) al v d := by
  cases h with
  | slot i =>
    obtain ⟨ho, hs⟩ := hv
    simp only [look] at e
    split at e
    · next d' e' =>
      cases e
      obtain ⟨a, ob, h1, h2, h3⟩ := r.own i d e' ho
      rw [hs] at h1; cases h1
      exact h3.cr (r.hst.gh a _ ob h2)
    · cases e
  | val d0 =>
    have hv : DV K (Zof G) al v d0 := hv
    cases d0 with
    | obj n =>
      simp only [look] at e
      split at e
      · next ds e' =>
        cases e
        cases hv with
        | obj ha =>
          obtain ⟨a, h1, o1, h2, xs, rfl, h3⟩ := r.hst.sto n _ e'
          rw [ha] at h1; cases h1
          exact ⟨_, xs, rfl, r.hst.gh _ _ _ h2, h3⟩
      · next ds e' =>
        cases e
        cases hv with
        | obj ha =>
          obtain ⟨a, h1, o1, h2, h3⟩ := r.hst.sto n _ e'
          rw [ha] at h1; cases h1
          exact CO.cr (r.hst.gh _ _ _ h2) h3
      · next ds e' =>
        cases e
        cases hv with
        | obj ha =>
          obtain ⟨a, h1, o1, h2, h3⟩ := r.hst.sto n _ e'
          rw [ha] at h1; cases h1
          exact CO.cr (r.hst.gh _ _ _ h2) h3
      · next c fs e' => cases e; exact hv
      · next c fs e' => cases e; exact hv
      · cases e
      · cases e
      · cases e
    | _ => simp only [look] at e; cases e; exact hv.cr r.zh
def tF (K : KX) (cls : Nat -> Addr) (own : Nat -> Bool) (f : Den D) : TE := fun σ H Q => ∃ G al m d m', Rst K cls own G al m σ H /\ f m = .ok d m' /\
  ∀ G' al' p o H', Ev G al G' al' -> Rst K cls own G' al' m' σ H' -> H' p = some o -> G' p = none -> CO K (Zof G') al' p o d -> Q (.ref p) H'
def tHs (K : KX) (cls : Nat -> Addr) (own : Nat -> Bool) (f : Den (List Hd)) : TA := fun σ H Q => ∃ G al m d m', Rst K cls own G al m σ H /\ f m = .ok d m' /\
  ∀ G' al' v H', Ev G al G' al' -> Rst K cls own G' al' m' σ H' -> HVs K own G' al' σ v d -> Q v H'
section
variable (cls : Nat -> Addr) (own : Nat -> Bool) (X : Cx)
abbrev SE (e : Expr) (f : Den D) : Prop := PE X e (tD X.kx cls own f)
abbrev SF (e : Expr) (f : Den D) : Prop := PE X e (tF X.kx cls own f)
abbrev SB (e : Expr) (f : Den Bool) : Prop := PT X e (tDb X.kx cls own f)
abbrev SHs (es : List Expr) (f : Den (List Hd)) : Prop := PA X es (tHs X.kx cls own f)
end
def eVar (i : Nat) : Den D := fun m => match m.sl[i]? with
  | some (some d) => .ok d m
  | _ => .bad
def eC (d : D) : Den D := fun m => .ok d m
def hVal (f : Den D) : Den Hd := f.bind fun d => .ret (.val d)
def aNil : Den (List Hd) := .ret []
def aCons (f : Den Hd) (r : Den (List Hd)) : Den (List Hd) := f.bind fun d => r.bind fun ds => .ret (d :: ds)
def eOp (g : D -> D -> Option D) (fa fb : Den Hd) : Den D := fa.bind fun a => fb.bind fun b => fun m => match look a m, look b m with
  | some x, some y => match g x y with
    | some z => .ok z m
    | none => .bad
  | _, _ => .bad
def eUn (g : D -> Option D) (fa : Den Hd) : Den D := fa.bind fun a => fun m => match look a m with
  | some x => match g x with
    | some z => .ok z m
    | none => .bad
  | none => .bad
def looks (hs : List Hd) (m : MS) : Option (List D) := hs.mapM (look · m)
def eFn (g : List D -> Option D) (fa : Den (List Hd)) : Den D := fa.bind fun hs => fun m => match looks hs m with
  | some xs => match g xs with
    | some z => .ok z m
    | none => .bad
  | none => .bad
section
variable {cls : Nat -> Addr} {own : Nat -> Bool} {X : Cx}
theorem se_of {e : Expr} {f : Den D} (h : SF cls own X e f) : SE cls own X e f := by
  refine pe_imp h fun σ H Q q => ?_
  obtain ⟨G, al, m, d, m', r, e, k⟩ := q
  refine ⟨G, al, m, d, m', r, e, fun G' al' p o H' ev r' hp hn c => ?_⟩
  have ev2 : Ev G' al' (putG G' p .frz o) al' := ev_put hn
  exact k (putG G' p .frz o) al' (.ref p) H' (ev.trans ev2) (r'.tag hn hp) (CO.frz (zof_of putG_same) (c.mono ev2.same ev2.al))
theorem sh_val {e : Expr} {f : Den D} (h : SE cls own X e f) : SH cls own X e (hVal f) := by
  refine pe_imp h fun σ H Q q => ?_
  obtain ⟨G, al, m, d, m', r, e, k⟩ := q
  obtain ⟨d0, m1, e1, e2⟩ := bind_ok e
  cases e2
  exact ⟨G, al, m, d0, _, r, e1, fun G' al' v H' ev r' hv => k G' al' v H' ev r' hv⟩
theorem se_var {i : Nat} {x : Str} {pos : Pos} (hN : X.N[i]? = some x) (hv : Vis X.env.scope x) (ho : own i = false) (hd : (x == ("__debug__" : Str)) = false := by decide) (hcd : (x == ("__classdict__" : Str)) = false := by decide) :
    SE cls own X (.Name x pos) (eVar i) := by
  refine pe_imp (pe_var hN hv hd hcd) fun σ H Q q => ?_
  obtain ⟨G, al, m, d, m', r, e, k⟩ := q
  unfold eVar at e
  split at e
  · next d' e' =>
    cases e
    obtain ⟨v, h1, h2⟩ := r.val i d e' ho
    exact ⟨v, h1, k G al v H .refl r h2⟩
  · cases e
theorem se_int {i j pos} : SE cls own X (.Constant (.int i) j pos) (eC (.int i)) := pe_imp pe_int fun σ H Q ⟨G, al, m, d, m', r, e, k⟩ => by cases e; exact k G al _ H .refl r (.int i)
theorem se_str {i j pos} : SE cls own X (.Constant (.str i) j pos) (eC (.str i)) := pe_imp pe_str fun σ H Q ⟨G, al, m, d, m', r, e, k⟩ => by cases e; exact k G al _ H .refl r (.str i)
theorem se_bl {i j pos} : SE cls own X (.Constant (.bool i) j pos) (eC (.bl i)) := pe_imp pe_bl fun σ H Q ⟨G, al, m, d, m', r, e, k⟩ => by cases e; exact k G al _ H .refl r (.bl i)
theorem se_non {j pos} : SE cls own X (.Constant .none j pos) (eC .non) := pe_imp pe_non fun σ H Q ⟨G, al, m, d, m', r, e, k⟩ => by cases e; exact k G al _ H .refl r .non
theorem sa_nil : SHs cls own X [] aNil := pa_imp pa_nil fun σ H Q ⟨G, al, m, d, m', r, e, k⟩ => by cases e; exact k G al _ H .refl r .nil
theorem sa_cons {e : Expr} {es : List Expr} {f : Den Hd} {fr : Den (List Hd)} (h : SH cls own X e f) (hr : SHs cls own X es fr) (hs : starEach (e :: es) X.env = (false, eval e X.env) :: starEach es X.env := by rfl) : SHs cls own X (e :: es) (aCons f fr) := by
  refine pa_imp (pa_cons h hr hs) fun σ H Q q => ?_
  obtain ⟨G, al, m, d, m', r, e, k⟩ := q
  obtain ⟨d0, m1, e1, e2⟩ := bind_ok e
  obtain ⟨ds, m2, e3, e4⟩ := bind_ok e2
  cases e4
  refine ⟨G, al, m, d0, m1, r, e1, fun G' al' v H' ev r' hv => ?_⟩
  exact ⟨G', al', m1, ds, _, r', e3, fun G2 al2 vs H2 ev2 r2 hvs => k G2 al2 _ H2 (ev.trans ev2) r2 (.cons (hv.ev ev2) hvs)⟩
end
end MI
namespace MI
open PySem PySem.Spec L2
section
variable {K : KX} {cls : Nat -> Addr} {own : Nat -> Bool} {G : Gh} {al : List Addr} {m : MS} {σ : St} {H : Hp} {d : D} {Q : VK} {v : V} {p : Addr}
theorem Post.keep (k : Post K cls own G al m σ d Q) (r : Rst K cls own G al m σ H) (h : DV K (Zof G) al v d) : Q v H := k G al v H .refl r h
end
def newT (us : List Value) : Obj := { cls := .type "tuple", data := .seq us.toArray }
theorem newT_ok {P : Program} {w : World} {H' : Hp} {h : Heap} {a : Addr} {xs : List V} {us : List Value} (z : xs.length <= sizeLine) (r : Vals xs us) (e : h.get? a = some (newT us)) : ObjOk P w H' h a (.frz (newT us) (.tup xs)) :=
  ⟨e, z, us, r, ⟨_, e, rfl, _, rfl⟩⟩
section
variable {X : Cx} {es : List Expr} {t : TA} {pos : Pos}
def tTupF (t : TA) : TE := fun σ H Q => t σ H fun xs H1 => xs.length <= sizeLine /\ ∀ p ob, H1 p = none -> ob.dict = none -> Q (.ref p) (upd H1 p (.frz ob (.tup xs)))
theorem pe_tupF {x1} (h : PA X es t) : PE X (.Tuple es x1 pos) (tTupF t) := by
  refine ⟨fun pins s σ H Q I hq => ?_⟩
  refine wpAny_Tuple_spliced (thn (h.run pos pins s σ H _ I hq) fun us s1 ⟨xs, H1, I1, r, z, q⟩ => ⟨by rw [<- r.length]; exact z, ?_⟩)
  exact ⟨.ref s1.heap.objs.size, _, I1.laid (o := .frz (newT us) (.tup xs)) (t' := s1.toks) (fun b u e => Heap.get?_push_of_some _ e) (Nat.le_refl _) (newT_ok z r (Heap.get?_push_size _ rfl)), rfl, q _ _ (I1.hok.fresh (Nat.le_refl _)) rfl⟩
def rTupleF (K : PySem.W.Frag) : List V -> Hp -> VK -> Prop := fun xs H Q => ∃ p ys, xs = [.ref p] /\ ((SqL K H p ys /\ ∀ l ob, H l = none -> ob.dict = none -> Q (.ref l) (upd H l (.frz ob (.tup ys)))) \/ (SqT K H p ys /\ Q (.ref p) H))
theorem cr_tupleF : CallR X (.type "tuple") (rTupleF X.K) := by
  intro pins s σ H xs us Q I r h
  obtain ⟨p, ys, rfl, h⟩ := h
  obtain ⟨u, rfl, rx⟩ := vals1 r
  cases rx
  rcases h with ⟨hq, q⟩ | ⟨hq, q⟩
  · obtain ⟨its, rv, pl, hz⟩ := I.list hq
    refine call_tuple_list pl.isList (fun h' kp => ?_) (by rw [List.size_toArray, <- rv.length]; exact hz)
    have I1 : Inv X pins σ H { s with heap := h' } := I.kept (t' := s.toks) kp
    exact ⟨.ref h'.objs.size, _, I1.laid (o := .frz (newT its) (.tup ys)) (t' := s.toks) (fun b o e => Heap.get?_push_of_some _ e) (Nat.le_refl _) (newT_ok hz rv (Heap.get?_push_size _ rfl)), rfl, q _ _ (I1.hok.fresh (Nat.le_refl _)) rfl⟩
  · obtain ⟨its, rv, pl, hz⟩ := I.tuple hq
    exact call_tuple_same pl ⟨.ref p, H, I, rfl, q⟩
def rCatF (K : PySem.W.Frag) : R2 := fun x y H Q => ∃ a b xs ys, x = .ref a /\ y = .ref b /\ SqT K H a xs /\ SqT K H b ys /\ xs.length + ys.length <= sizeLine /\
  (xs = [] -> Q (.ref b) H) /\ (xs ≠ [] -> ys = [] -> Q (.ref a) H) /\ (xs ≠ [] -> ys ≠ [] -> ∀ p ob, H p = none -> ob.dict = none -> Q (.ref p) (upd H p (.frz ob (.tup (xs ++ ys)))))
theorem op_catF : OpR X (binaryOp .Add) (rCatF X.K) := by
  intro pins s σ H x y v u Q I rx ry h
  obtain ⟨a, b, xs, ys, rfl, rfl, ha, hb, hz, q0, q1, q2⟩ := h
  cases rx
  cases ry
  obtain ⟨its, r1, p1, _⟩ := I.tuple ha
  obtain ⟨its2, r2, p2, _⟩ := I.tuple hb
  by_cases hx : xs = []
  · subst hx
    cases r1
    exact L2.cat_tup0 p1 p2 ⟨.ref b, H, I, rfl, q0 rfl⟩
  · refine HT.cat_tup p1 p2 (fun z => hx (r1.nil_iff.mp z)) (fun z => ⟨.ref a, H, I, rfl, q1 hx (r2.nil_iff.mp z)⟩) (fun z => ?_) (by rw [<- r1.length, <- r2.length]; exact hz)
    refine ⟨.ref s.heap.objs.size, _, I.laid (t' := s.toks) (o := .frz (newT (its ++ its2)) (.tup (xs ++ ys))) (fun b ob q => Heap.get?_push_of_some _ q) (Nat.le_refl _) (newT_ok (by rw [List.length_append]; exact hz) (r1.append r2) ?_), rfl, q2 hx (fun w => z (r2.nil_iff.mpr w)) _ _ (I.hok.fresh (Nat.le_refl _)) rfl⟩
    exact Heap.get?_push_size _ rfl
end
def OpOk (K : KX) (cls : Nat -> Addr) (own : Nat -> Bool) (r : R2) (g : D -> D -> Option D) : Prop :=
  ∀ G al m σ H x y da db d Q, Rst K cls own G al m σ H -> CR K H (Zof G) al x da -> CR K H (Zof G) al y db -> g da db = some d -> Post K cls own G al m σ d Q -> r x y H Q
def UnOk (K : KX) (cls : Nat -> Addr) (own : Nat -> Bool) (r : V -> Hp -> VK -> Prop) (g : D -> Option D) : Prop :=
  ∀ G al m σ H x da d Q, Rst K cls own G al m σ H -> CR K H (Zof G) al x da -> g da = some d -> Post K cls own G al m σ d Q -> r x H Q
inductive CRs (K : KX) (H Z : Hp) (al : List Addr) : List V -> List D -> Prop
  | nil : CRs K H Z al [] []
  | cons {v : V} {vs : List V} {d : D} {ds : List D} : CR K H Z al v d -> CRs K H Z al vs ds -> CRs K H Z al (v :: vs) (d :: ds)
theorem looks_cr {K : KX} {cls : Nat -> Addr} {own : Nat -> Bool} {G : Gh} {al : List Addr} {m : MS} {σ : St} {H : Hp} (r : Rst K cls own G al m σ H) : ∀ {vs : List V} {hs : List Hd} {ds : List D},
    HVs K own G al σ vs hs -> looks hs m = some ds -> CRs K H (Zof G) al vs ds
  | _, _, ds, .nil, e => by
    have e : some [] = some ds := e
    cases e; exact .nil
  | _, _, ds, .cons (h := h) (hs := hs) hv hr, e => by
    unfold looks at e
    rw [List.mapM_cons] at e
    cases e1 : look h m with
    | none => rw [e1] at e; cases e
    | some d =>
      rw [e1] at e
      cases e2 : hs.mapM (look · m) with
      | none => simp [e2] at e
      | some ds2 =>
        simp [e2] at e
        subst e
        exact .cons (look_cr r hv e1) (looks_cr r hr e2)
def FnOkD (K : KX) (cls : Nat -> Addr) (own : Nat -> Bool) (r : List V -> Hp -> VK -> Prop) (g : List D -> Option D) : Prop :=
  ∀ G al m σ H xs da d Q, Rst K cls own G al m σ H -> CRs K H (Zof G) al xs da -> g da = some d -> Post K cls own G al m σ d Q -> r xs H Q
def FnOkF (K : KX) (cls : Nat -> Addr) (own : Nat -> Bool) (r : List V -> Hp -> VK -> Prop) (g : List D -> Option D) : Prop :=
  ∀ G al m σ H xs da d Q, Rst K cls own G al m σ H -> CRs K H (Zof G) al xs da -> g da = some d -> PostF K cls own G al m σ d Q -> r xs H Q
section
variable {cls : Nat -> Addr} {own : Nat -> Bool} {X : Cx} {a b : Expr} {fa fb : Den Hd} {pos : Pos}
theorem eOp_ok {g : D -> D -> Option D} {m m' : MS} {d : D} (e : eOp g fa fb m = .ok d m') : ∃ h1 m1 h2 x y, fa m = .ok h1 m1 /\ fb m1 = .ok h2 m' /\ look h1 m' = some x /\ look h2 m' = some y /\ g x y = some d := by
  obtain ⟨h1, m1, e1, e⟩ := bind_ok e
  obtain ⟨h2, m2, e2, e⟩ := bind_ok e
  split at e
  · next x y l1 l2 =>
    split at e
    · next z gz => cases e; exact ⟨h1, m1, h2, x, y, e1, e2, l1, l2, gz⟩
    · cases e
  · cases e
theorem eUn_ok {g : D -> Option D} {m m' : MS} {d : D} (e : eUn g fa m = .ok d m') : ∃ h1 x, fa m = .ok h1 m' /\ look h1 m' = some x /\ g x = some d := by
  obtain ⟨h1, m1, e1, e⟩ := bind_ok e
  split at e
  · next x l1 =>
    split at e
    · next z gz => cases e; exact ⟨h1, x, e1, l1, gz⟩
    · cases e
  · cases e
theorem eFn_ok {g : List D -> Option D} {fs : Den (List Hd)} {m m' : MS} {d : D} (e : eFn g fs m = .ok d m') : ∃ hs xs, fs m = .ok hs m' /\ looks hs m' = some xs /\ g xs = some d := by
  obtain ⟨h1, m1, e1, e⟩ := bind_ok e
  split at e
  · next x l1 =>
    split at e
    · next z gz => cases e; exact ⟨h1, x, e1, l1, gz⟩
    · cases e
  · cases e
theorem se_op2 {op : Operator} {r : R2} {g : D -> D -> Option D} (ho : OpR X (binaryOp op) r) (hg : OpOk X.kx cls own r g) (ha : SH cls own X a fa) (hb : SH cls own X b fb) : SE cls own X (.BinOp a op b pos) (eOp g fa fb) := by
  refine pe_imp (pe_op ho ha hb) fun σ H Q q => ?_
  obtain ⟨G, al, m, d, m', r, e, k⟩ := q
  obtain ⟨h1, m1, h2, x, y, e1, e2, l1, l2, gz⟩ := eOp_ok e
  refine ⟨G, al, m, h1, m1, r, e1, fun G1 al1 v H1 ev1 r1 hv1 => ⟨G1, al1, m1, h2, m', r1, e2, fun G2 al2 u H2 ev2 r2 hv2 => ?_⟩⟩
  exact hg G2 al2 m' σ H2 v u x y d Q r2 (look_cr r2 (hv1.ev ev2) l1) (look_cr r2 hv2 l2) gz fun G3 al3 w H3 ev3 r3 dv => k G3 al3 w H3 ((ev1.trans ev2).trans ev3) r3 dv
theorem se_cmp {op : CmpOp} {r : R2} {g : D -> D -> Option D} (ho : OpR X (compareOp op) r) (hg : OpOk X.kx cls own r g) (ha : SH cls own X a fa) (hb : SH cls own X b fb) (hm : behindInMarks op b = false := by first | exact nobehind _ (by decide) (by decide) | rfl) :
    SE cls own X (.Compare a [op] [b] pos) (eOp g fa fb) := by
  refine pe_imp (pe_cmpR ho ha hb hm) fun σ H Q q => ?_
  obtain ⟨G, al, m, d, m', r, e, k⟩ := q
  obtain ⟨h1, m1, h2, x, y, e1, e2, l1, l2, gz⟩ := eOp_ok e
  refine ⟨G, al, m, h1, m1, r, e1, fun G1 al1 v H1 ev1 r1 hv1 => ⟨G1, al1, m1, h2, m', r1, e2, fun G2 al2 u H2 ev2 r2 hv2 => ?_⟩⟩
  exact hg G2 al2 m' σ H2 v u x y d Q r2 (look_cr r2 (hv1.ev ev2) l1) (look_cr r2 hv2 l2) gz fun G3 al3 w H3 ev3 r3 dv => k G3 al3 w H3 ((ev1.trans ev2).trans ev3) r3 dv
theorem se_un {op : UnaryOp} {r : V -> Hp -> VK -> Prop} {g : D -> Option D} (ho : UnR X (unaryOp op) r) (hg : UnOk X.kx cls own r g) (ha : SH cls own X a fa) : SE cls own X (.UnaryOp op a pos) (eUn g fa) := by
  refine pe_imp (pe_un ho ha) fun σ H Q q => ?_
  obtain ⟨G, al, m, d, m', r, e, k⟩ := q
  obtain ⟨h1, x, e1, l1, gz⟩ := eUn_ok e
  refine ⟨G, al, m, h1, m', r, e1, fun G1 al1 v H1 ev1 r1 hv1 => ?_⟩
  exact hg G1 al1 m' σ H1 v x d Q r1 (look_cr r1 hv1 l1) gz fun G3 al3 w H3 ev3 r3 dv => k G3 al3 w H3 (ev1.trans ev3) r3 dv
theorem se_callB {x : Str} {p : Pos} {id : String} {es : List Expr} {r : List V -> Hp -> VK -> Prop} {g : List D -> Option D} {fs : Den (List Hd)} (hc : CallR X (.builtin id) r) (hg : FnOkD X.kx cls own r g) (hgl : Gl X x) (hm : X.mg x = none) (hv : bootBuiltins x = some (.builtin id)) (ha : SHs cls own X (a :: es) fs)
    (hn : x ≠ "__name__" := by decide) (hdb : (x == ("__debug__" : Str)) = false := by decide)
    (he : starEach (a :: es) X.env = (false, eval a X.env) :: starEach es X.env := by rfl) (hpl : (backTo pos (starEach es X.env)).any (·.1) = false := by rfl) : SE cls own X (.Call (.Name x p) (a :: es) [] pos) (eFn g fs) := by
  refine pe_imp (pe_callB hc hgl hm hv ha hn hdb he hpl) fun σ H Q q => ?_
  obtain ⟨G, al, m, d, m', r, e, k⟩ := q
  obtain ⟨hs, xs, e1, l1, gz⟩ := eFn_ok e
  refine ⟨G, al, m, hs, m', r, e1, fun G1 al1 v H1 ev1 r1 hv1 => ?_⟩
  exact hg G1 al1 m' σ H1 v xs d Q r1 (looks_cr r1 hv1 l1) gz fun G3 al3 w H3 ev3 r3 dv => k G3 al3 w H3 (ev1.trans ev3) r3 dv
theorem sf_callB {x : Str} {p : Pos} {id : String} {es : List Expr} {r : List V -> Hp -> VK -> Prop} {g : List D -> Option D} {fs : Den (List Hd)} (hc : CallR X (.builtin id) r) (hg : FnOkF X.kx cls own r g) (hgl : Gl X x) (hm : X.mg x = none) (hv : bootBuiltins x = some (.builtin id)) (ha : SHs cls own X (a :: es) fs)
    (hn : x ≠ "__name__" := by decide) (hdb : (x == ("__debug__" : Str)) = false := by decide)
    (he : starEach (a :: es) X.env = (false, eval a X.env) :: starEach es X.env := by rfl) (hpl : (backTo pos (starEach es X.env)).any (·.1) = false := by rfl) : SF cls own X (.Call (.Name x p) (a :: es) [] pos) (eFn g fs) := by
  refine pe_imp (pe_callB hc hgl hm hv ha hn hdb he hpl) fun σ H Q q => ?_
  obtain ⟨G, al, m, d, m', r, e, k⟩ := q
  obtain ⟨hs, xs, e1, l1, gz⟩ := eFn_ok e
  refine ⟨G, al, m, hs, m', r, e1, fun G1 al1 v H1 ev1 r1 hv1 => ?_⟩
  exact hg G1 al1 m' σ H1 v xs d Q r1 (looks_cr r1 hv1 l1) gz fun G3 al3 w ob H3 ev3 r3 hp hn c => k G3 al3 w ob H3 (ev1.trans ev3) r3 hp hn c
theorem se_callTy {x : Str} {p : Pos} {id : String} {es : List Expr} {r : List V -> Hp -> VK -> Prop} {g : List D -> Option D} {fs : Den (List Hd)} (hc : CallR X (.type id) r) (hg : FnOkD X.kx cls own r g) (hgl : Gl X x) (hm : X.mg x = none) (hv : bootBuiltins x = some (.type id)) (ha : SHs cls own X (a :: es) fs)
    (hn : x ≠ "__name__" := by decide) (hdb : (x == ("__debug__" : Str)) = false := by decide)
    (he : starEach (a :: es) X.env = (false, eval a X.env) :: starEach es X.env := by rfl) (hpl : (backTo pos (starEach es X.env)).any (·.1) = false := by rfl) : SE cls own X (.Call (.Name x p) (a :: es) [] pos) (eFn g fs) := by
  refine pe_imp (pe_callTy hc hgl hm hv ha hn hdb he hpl) fun σ H Q q => ?_
  obtain ⟨G, al, m, d, m', r, e, k⟩ := q
  obtain ⟨hs, xs, e1, l1, gz⟩ := eFn_ok e
  refine ⟨G, al, m, hs, m', r, e1, fun G1 al1 v H1 ev1 r1 hv1 => ?_⟩
  exact hg G1 al1 m' σ H1 v xs d Q r1 (looks_cr r1 hv1 l1) gz fun G3 al3 w H3 ev3 r3 dv => k G3 al3 w H3 (ev1.trans ev3) r3 dv
end
def okE (d : D) : Option PyData := match toPy d with
  | some p => if SeqAt.shaped p then some p else none
  | none => none
theorem okE_some {d : D} {p : PyData} (h : okE d = some p) : toPy d = some p /\ SeqAt.shaped p = true := by
  unfold okE at h
  split at h
  · next q e =>
    split at h
    · next hs => cases h; exact ⟨e, hs⟩
    · cases h
  · cases h
def eqB (a b : D) : Option Bool := match okE a, okE b with
  | some p, some q => some (PyData.eqv p q)
  | _, _ => none
def gEq (a b : D) : Option D := (eqB a b).map .bl
def gNe (a b : D) : Option D := (eqB a b).map fun c => .bl (!c)
section
variable {cls : Nat -> Addr} {own : Nat -> Bool} {K : KX}
theorem ok_eqD : OpOk K cls own (rEqD K.K) gEq := by
  intro G al m σ H x y da db d Q r hx hy e k
  unfold gEq eqB at e
  split at e
  · next p q e1 e2 =>
    cases e
    obtain ⟨t1, s1⟩ := okE_some e1
    obtain ⟨t2, s2⟩ := okE_some e2
    exact ⟨p, q, hx.dp r.zh t1, hy.dp r.zh t2, s1, s2, k.keep r (.bl _)⟩
  · cases e
theorem ok_neD : OpOk K cls own (rNeD K.K) gNe := by
  intro G al m σ H x y da db d Q r hx hy e k
  unfold gNe eqB at e
  split at e
  · next p q e1 e2 =>
    cases e
    obtain ⟨t1, s1⟩ := okE_some e1
    obtain ⟨t2, s2⟩ := okE_some e2
    exact ⟨p, q, hx.dp r.zh t1, hy.dp r.zh t2, s1, s2, k.keep r (.bl _)⟩
  · cases e
end
end MI
namespace MI
open PySem PySem.Spec L2
def rOr (r1 r2 : R2) : R2 := fun x y H Q => r1 x y H Q \/ r2 x y H Q
theorem opR_or {X : Cx} {f : Value -> Value -> Sem Value} {r1 r2 : R2} (h1 : OpR X f r1) (h2 : OpR X f r2) : OpR X f (rOr r1 r2) := by
  intro pins s σ H x y v u Q I rx ry h
  rcases h with h | h
  · exact h1 pins s σ H x y v u Q I rx ry h
  · exact h2 pins s σ H x y v u Q I rx ry h
def cOr (r1 r2 : List V -> Hp -> VK -> Prop) : List V -> Hp -> VK -> Prop := fun xs H Q => r1 xs H Q \/ r2 xs H Q
theorem callR_or {X : Cx} {f : Value} {r1 r2 : List V -> Hp -> VK -> Prop} (h1 : CallR X f r1) (h2 : CallR X f r2) : CallR X f (cOr r1 r2) := by
  intro pins s σ H xs us Q I rv h
  rcases h with h | h
  · exact h1 pins s σ H xs us Q I rv h
  · exact h2 pins s σ H xs us Q I rv h
def fitL (n : Nat) : Bool := decide (n <= sizeLine)
theorem fitL_le {n : Nat} (h : fitL n = true) : n <= sizeLine := of_decide_eq_true h
def gAdd : D -> D -> Option D
  | .int i, .int j => some (.int (i + j))
  | .str x, .str y => if fitL (x.length + y.length) then some (.str (x ++ y)) else none
  | .tup xs, .tup ys => if fitL (xs.length + ys.length) then some (.tup (xs ++ ys)) else none
  | .lst xs, .lst ys => if fitL (xs.length + ys.length) then some (.lst (xs ++ ys)) else none
  | _, _ => none
def rAdd (K : PySem.W.Frag) : R2 := rOr (rI0 fun i j => .int (i + j)) (rOr (fun x y H Q => ∃ i j, x = .str i /\ y = .str j /\ i.length + j.length <= sizeLine /\ Q (.str (i ++ j)) H) (rOr (rCatF K) rCat))
theorem op_addU {X : Cx} : OpR X (binaryOp .Add) (rAdd X.K) := opR_or op_add (opR_or op_add_str (opR_or op_catF op_cat))
section
variable {cls : Nat -> Addr} {own : Nat -> Bool} {K : KX}
theorem nil_iff {K : KX} {Z : Hp} {al : List Addr} {xs : List V} {ds : List D} (h : DVs K Z al xs ds) : xs = [] ↔ ds = [] := by
  cases h <;> simp
theorem ok_add : OpOk K cls own (rAdd K.K) gAdd := by
  intro G al m σ H x y da db d Q r hx hy e k
  unfold gAdd at e
  split at e
  · next i j => cases e; cases hx.int; cases hy.int; exact .inl ⟨i, j, rfl, rfl, k.keep r (.int _)⟩
  · next i j =>
    split at e
    · next hf => cases e; cases hx.str; cases hy.str; exact .inr (.inl ⟨i, j, rfl, rfl, fitL_le hf, k.keep r (.str _)⟩)
    · cases e
  · next xs ys =>
    split at e
    · next hf =>
      cases e
      obtain ⟨a, us, rfl, h1, r1⟩ := hx.tup
      obtain ⟨b, ws, rfl, h2, r2⟩ := hy.tup
      refine .inr (.inr (.inl ⟨a, b, us, ws, rfl, rfl, Same.tupS r.zh h1, Same.tupS r.zh h2, by rw [r1.length, r2.length]; exact fitL_le hf, fun e => ?_, fun _ e => ?_, fun _ _ p ob hp hdb => ?_⟩))
      · have := (nil_iff r1).mp e
        subst this
        exact k.keep r (.tup h2 r2)
      · have := (nil_iff r2).mp e
        subst this
        rw [List.append_nil] at k
        exact k.keep r (.tup h1 r1)
      · exact k.tup r (r1.append r2) hp hdb
    · cases e
  · next xs ys =>
    split at e
    · next hf =>
      cases e
      obtain ⟨a, us, rfl, h1, r1⟩ := hx
      obtain ⟨b, ws, rfl, h2, r2⟩ := hy
      exact .inr (.inr (.inr ⟨a, b, us, ws, rfl, rfl, h1, h2, by rw [r1.length, r2.length]; exact fitL_le hf, fun p hp => k.lst r (r1.append r2) hp⟩))
    · cases e
  · cases e
def gMul : D -> D -> Option D
  | .int i, .int j => if i.natAbs.log2 + j.natAbs.log2 < 1000000 then some (.int (i * j)) else none
  | .lst xs, .int k => if k < 1000 /\ -1000 < k /\ xs.length * k.toNat <= sizeLine then some (.lst (List.replicate k.toNat xs).flatten) else none
  | _, _ => none
def rMul : R2 := rOr (rI CMulW fun i j => .int (i * j)) rRep
theorem op_mulU {X : Cx} : OpR X (binaryOp .Mult) rMul := opR_or op_mulW op_rep
theorem DVs.rep {K : KX} {Z : Hp} {al : List Addr} {xs : List V} {ds : List D} (h : DVs K Z al xs ds) : ∀ n : Nat, DVs K Z al (List.replicate n xs).flatten (List.replicate n ds).flatten
  | 0 => .nil
  | n + 1 => by
    rw [List.replicate_succ, List.replicate_succ, List.flatten_cons, List.flatten_cons]
    exact h.append (DVs.rep h n)
theorem ok_mul : OpOk K cls own rMul gMul := by
  intro G al m σ H x y da db d Q r hx hy e k
  unfold gMul at e
  split at e
  · next i j =>
    split at e
    · next hf => cases e; cases hx.int; cases hy.int; exact .inl ⟨i, j, rfl, rfl, hf, k.keep r (.int _)⟩
    · cases e
  · next xs n =>
    split at e
    · next hf =>
      cases e
      obtain ⟨a, us, rfl, h1, r1⟩ := hx
      cases hy.int
      obtain ⟨f1, f2, f3⟩ := hf
      exact .inr ⟨a, n, us, rfl, rfl, h1, by omega, by omega, by rw [r1.length]; exact f3, fun p hp => k.lst r (r1.rep _) hp⟩
    · cases e
  · cases e
def gDiv : D -> D -> Option D
  | .int i, .int j => if 0 < j /\ j.natAbs.log2 < 9000 then some (.int (i / j)) else none
  | _, _ => none
theorem ok_div : OpOk K cls own (rI CDivW fun i j => .int (i / j)) gDiv := by
  intro G al m σ H x y da db d Q r hx hy e k
  unfold gDiv at e
  split at e
  · next i j =>
    split at e
    · next hf => cases e; cases hx.int; cases hy.int; exact ⟨i, j, rfl, rfl, hf, k.keep r (.int _)⟩
    · cases e
  · cases e
def gMod : D -> D -> Option D
  | .int i, .int j => if 0 < j then some (.int (i % j)) else none
  | _, _ => none
theorem ok_mod : OpOk K cls own (rI (fun _ j => j ≠ 0) fun i j => .int (i.fmod j)) gMod := by
  intro G al m σ H x y da db d Q r hx hy e k
  unfold gMod at e
  split at e
  · next i j =>
    split at e
    · next hf =>
      cases e; cases hx.int; cases hy.int
      refine ⟨i, j, rfl, rfl, by omega, ?_⟩
      show Q (V.int (i.fmod j)) H
      rw [Int.fmod_eq_emod_of_nonneg _ (show 0 <= j by omega)]
      exact k.keep r (.int _)
    · cases e
  · cases e
def gPow : D -> D -> Option D
  | .int i, .int j => if 0 <= j /\ j <= 1000000 /\ i.natAbs < 2 ^ 64 then some (.int (i ^ j.toNat)) else none
  | _, _ => none
theorem ok_pow : OpOk K cls own (rI CPow fun i j => .int (i ^ j.toNat)) gPow := by
  intro G al m σ H x y da db d Q r hx hy e k
  unfold gPow at e
  split at e
  · next i j =>
    split at e
    · next hf => cases e; cases hx.int; cases hy.int; exact ⟨i, j, rfl, rfl, hf, k.keep r (.int _)⟩
    · cases e
  · cases e
def gNeg : D -> Option D
  | .int i => some (.int (-i))
  | _ => none
theorem ok_neg : UnOk K cls own (rU fun i => .int (-i)) gNeg := by
  intro G al m σ H x da d Q r hx e k
  unfold gNeg at e
  split at e
  · next i => cases e; cases hx.int; exact ⟨i, rfl, k.keep r (.int _)⟩
  · cases e
def gLt : D -> D -> Option D
  | .int i, .int j => some (.bl (decide (i < j)))
  | .str x, .str y => some (.bl (decide (x.cps.toList < y.cps.toList)))
  | _, _ => none
def rLt : R2 := rOr (rI0 fun i j => .bl (decide (i < j))) (fun x y H Q => ∃ i j, x = .str i /\ y = .str j /\ Q (.bl (decide (i.cps.toList < j.cps.toList))) H)
theorem op_ltU {X : Cx} : OpR X (compareOp .Lt) rLt := opR_or op_lt op_lt_str
theorem ok_lt : OpOk K cls own rLt gLt := by
  intro G al m σ H x y da db d Q r hx hy e k
  unfold gLt at e
  split at e
  · next i j => cases e; cases hx.int; cases hy.int; exact .inl ⟨i, j, rfl, rfl, k.keep r (.bl _)⟩
  · next i j => cases e; cases hx.str; cases hy.str; exact .inr ⟨i, j, rfl, rfl, k.keep r (.bl _)⟩
  · cases e
def gI (c : Int -> Int -> Bool) : D -> D -> Option D
  | .int i, .int j => some (.bl (c i j))
  | _, _ => none
theorem ok_I {c : Int -> Int -> Bool} : OpOk K cls own (rI0 fun i j => .bl (c i j)) (gI c) := by
  intro G al m σ H x y da db d Q r hx hy e k
  unfold gI at e
  split at e
  · next i j => cases e; cases hx.int; cases hy.int; exact ⟨i, j, rfl, rfl, k.keep r (.bl _)⟩
  · cases e
abbrev gGt : D -> D -> Option D := gI fun i j => decide (j < i)
abbrev gGe : D -> D -> Option D := gI fun i j => decide (j <= i)
def gIsN : D -> D -> Option D
  | .non, .non => some (.bl true)
  | .int _, .non => some (.bl false)
  | .bl _, .non => some (.bl false)
  | .str _, .non => some (.bl false)
  | .tup _, .non => some (.bl false)
  | .lst _, .non => some (.bl false)
  | _, _ => none
def gNotN (a b : D) : Option D := match gIsN a b with
  | some (.bl c) => some (.bl (!c))
  | _ => none
end
end MI
namespace MI
open PySem PySem.Spec L2
def kEq : D -> D -> Bool
  | .int i, .int j => decide (i = j)
  | .str x, .str y => decide (x = y)
  | _, _ => false
def isKey : D -> Bool
  | .int _ => true
  | .str _ => true
  | _ => false
def dget : List (D × D) -> D -> Option D
  | [], _ => none
  | (k, v) :: r, x => if kEq k x then some v else dget r x
theorem kEq_kD (a b : Key) : kEq (kD a) (kD b) = decide (a = b) := by
  cases a with
  | inl i => cases b with
    | inl j => simp [kEq, kD]
    | inr y => simp [kEq, kD]
  | inr x => cases b with
    | inl j => simp [kEq, kD]
    | inr y => simp [kEq, kD]
theorem isKey_kD {d : D} (h : isKey d = true) : ∃ k, d = kD k := by
  cases d with
  | int i => exact ⟨.inl i, rfl⟩
  | str i => exact ⟨.inr i, rfl⟩
  | _ => cases h
theorem CR.key {K : KX} {H Z : Hp} {al : List Addr} {v : V} {k : Key} (h : CR K H Z al v (kD k)) : v = kV k := by
  cases k with
  | inl i => exact CR.int h
  | inr x => exact CR.str h
theorem dget_K {K : KX} {Z : Hp} {al : List Addr} (k : Key) : ∀ {kvs : List (Key × V)} {ds : List (D × D)}, ds.map Prod.fst = kvs.map (fun q => kD q.1) -> DVs K Z al (kvs.map Prod.snd) (ds.map Prod.snd) ->
    (∀ d, dget ds (kD k) = some d -> ∃ v, valV kvs k = some v /\ DV K Z al v d) /\ (dget ds (kD k) = none -> valV kvs k = none)
  | [], [], _, _ => ⟨fun d h => (nomatch (show (none : Option D) = some d from h)), fun _ => rfl⟩
  | [], _ :: _, e, _ => by cases e
  | _ :: _, [], e, _ => by cases e
  | (a, v) :: kvs, (x, d) :: ds, e, r => by
    have e' : x :: ds.map Prod.fst = kD a :: kvs.map (fun q => kD q.1) := e
    injection e' with e1 e2
    subst e1
    cases r with
    | cons r1 r2 =>
      obtain ⟨i1, i2⟩ := dget_K k e2 r2
      unfold dget
      rw [kEq_kD]
      by_cases h : a = k
      · subst h
        simp only [decide_true, if_true]
        exact ⟨fun d' q => by cases q; exact ⟨v, valV_pos rfl, r1⟩, fun q => by cases q⟩
      · simp only [decide_eq_false h, Bool.false_eq_true, if_false]
        rw [valV_neg h]
        exact ⟨i1, i2⟩
def gIn : D -> D -> Option Bool
  | x, .lst ds => match okE x, okE (.lst ds) with
    | some p, some (.list ps) => some (ps.any fun z => PyData.eqv z p)
    | _, _ => none
  | x, .tup ds => match okE x, okE (.tup ds) with
    | some p, some (.tuple ps) => some (ps.any fun z => PyData.eqv z p)
    | _, _ => none
  | x, .dic ds => if isKey x then some (dget ds x).isSome else none
  | .str i, .str j => some (!(Builtin.Str.occurrences j i 0 j.length 1).isEmpty)
  | _, _ => none
def gInD (a b : D) : Option D := (gIn a b).map .bl
def gNotInD (a b : D) : Option D := (gIn a b).map fun c => .bl (!c)
def rInAll (K : PySem.W.Frag) (neg : Bool) : R2 := fun x y H Q => ∃ b : Bool, ((∃ d ds, Dp K H x d /\ Dp K H y (.list ds) /\ SeqAt.shaped d = true /\ SeqAt.shaped (.list ds) = true /\ b = ds.any fun z => PyData.eqv z d) \/
    (∃ d ds, Dp K H x d /\ Dp K H y (.tuple ds) /\ SeqAt.shaped d = true /\ SeqAt.shaped (.tuple ds) = true /\ b = ds.any fun z => PyData.eqv z d) \/
    (∃ a o, y = .ref a /\ DGet H a x o /\ b = o.isSome) \/ (∃ i j, x = .str i /\ y = .str j /\ b = !(Builtin.Str.occurrences j i 0 j.length 1).isEmpty)) /\ Q (.bl (if neg then !b else b)) H
section
variable {X : Cx}
theorem op_inU (hu : X.A.units + 65 < cLine) : OpR X (compareOp .In) (rInAll X.K false) := by
  intro pins s σ H x y v u Q I rx ry h
  obtain ⟨b, h, q⟩ := h
  rcases h with ⟨d, ds, hd, he, sd, se, rfl⟩ | ⟨d, ds, hd, he, sd, se, rfl⟩ | ⟨a, o, rfl, g, rfl⟩ | ⟨i, j, rfl, rfl, rfl⟩
  · exact op_inD hu pins s σ H x y v u Q I rx ry ⟨d, ds, hd, he, sd, se, q⟩
  · obtain ⟨as, r1⟩ := Dp.reads I d x v hd rx
    obtain ⟨bs, r2⟩ := Dp.reads I (.tuple ds) y u he ry
    exact SeqAt.in_tuple_reads r2 r1 (SeqAt.canLay_of_shaped se) (SeqAt.canLay_of_shaped sd) (PyProof.Rows.room_in_shaped sd hu) ⟨.bl _, H, I, rfl, q⟩
  · cases ry
    exact d_in (by omega) I g rx fun s' I' => ⟨.bl _, H, I', rfl, q⟩
  · exact op_in_str pins s σ H _ _ v u Q I rx ry ⟨i, j, rfl, rfl, q⟩
theorem op_notInU (hu : X.A.units + 65 < cLine) : OpR X (compareOp .NotIn) (rInAll X.K true) := by
  intro pins s σ H x y v u Q I rx ry h
  obtain ⟨b, h, q⟩ := h
  rcases h with ⟨d, ds, hd, he, sd, se, rfl⟩ | ⟨d, ds, hd, he, sd, se, rfl⟩ | ⟨a, o, rfl, g, rfl⟩ | ⟨i, j, rfl, rfl, rfl⟩
  · exact op_notInD hu pins s σ H x y v u Q I rx ry ⟨d, ds, hd, he, sd, se, q⟩
  · obtain ⟨as, r1⟩ := Dp.reads I d x v hd rx
    obtain ⟨bs, r2⟩ := Dp.reads I (.tuple ds) y u he ry
    exact SeqAt.notIn_tuple_reads r2 r1 (SeqAt.canLay_of_shaped se) (SeqAt.canLay_of_shaped sd) (PyProof.Rows.room_in_shaped sd hu) ⟨.bl _, H, I, rfl, q⟩
  · cases ry
    exact d_notIn (by omega) I g rx fun s' I' => ⟨.bl _, H, I', rfl, q⟩
  · exact op_notin_str pins s σ H _ _ v u Q I rx ry ⟨i, j, rfl, rfl, q⟩
end
section
variable {cls : Nat -> Addr} {own : Nat -> Bool} {K : KX}
theorem in_core {G : Gh} {al : List Addr} {m : MS} {σ : St} {H : Hp} {x y : V} {da db : D} {b : Bool} (r : Rst K cls own G al m σ H) (hx : CR K H (Zof G) al x da) (hy : CR K H (Zof G) al y db) (e : gIn da db = some b) :
    (∃ d ds, Dp K.K H x d /\ Dp K.K H y (.list ds) /\ SeqAt.shaped d = true /\ SeqAt.shaped (.list ds) = true /\ b = ds.any fun z => PyData.eqv z d) \/
    (∃ d ds, Dp K.K H x d /\ Dp K.K H y (.tuple ds) /\ SeqAt.shaped d = true /\ SeqAt.shaped (.tuple ds) = true /\ b = ds.any fun z => PyData.eqv z d) \/
    (∃ a o, y = .ref a /\ DGet H a x o /\ b = o.isSome) \/ (∃ i j, x = .str i /\ y = .str j /\ b = !(Builtin.Str.occurrences j i 0 j.length 1).isEmpty) := by
  unfold gIn at e
  split at e
  · next ds =>
    split at e
    · next p ps e1 e2 =>
      cases e
      obtain ⟨t1, s1⟩ := okE_some e1
      obtain ⟨t2, s2⟩ := okE_some e2
      exact .inl ⟨p, ps, hx.dp r.zh t1, hy.dp r.zh t2, s1, s2, rfl⟩
    · cases e
  · next ds =>
    split at e
    · next p ps e1 e2 =>
      cases e
      obtain ⟨t1, s1⟩ := okE_some e1
      obtain ⟨t2, s2⟩ := okE_some e2
      exact .inr (.inl ⟨p, ps, hx.dp r.zh t1, hy.dp r.zh t2, s1, s2, rfl⟩)
    · cases e
  · next ds =>
    split at e
    · next hk =>
      cases e
      obtain ⟨k, rfl⟩ := isKey_kD hk
      cases hx.key
      obtain ⟨a, kvs, rfl, hr, e1, e2⟩ := hy
      refine .inr (.inr (.inl ⟨a, valV kvs k, rfl, .inl ⟨kvs, k, hr, rfl, rfl⟩, ?_⟩))
      obtain ⟨i1, i2⟩ := dget_K k e1 e2
      cases q : dget ds (kD k) with
      | none => rw [i2 q]; rfl
      | some d => obtain ⟨v, h1, _⟩ := i1 d q; rw [h1]; rfl
    · cases e
  · next i j => cases e; cases hx.str; cases hy.str; exact .inr (.inr (.inr ⟨i, j, rfl, rfl, rfl⟩))
  · cases e
theorem ok_in : OpOk K cls own (rInAll K.K false) gInD := by
  intro G al m σ H x y da db d Q r hx hy e k
  unfold gInD at e
  cases q : gIn da db with
  | none => rw [q] at e; cases e
  | some b => rw [q] at e; cases e; exact ⟨b, in_core r hx hy q, k.keep r (.bl _)⟩
theorem ok_notIn : OpOk K cls own (rInAll K.K true) gNotInD := by
  intro G al m σ H x y da db d Q r hx hy e k
  unfold gNotInD at e
  cases q : gIn da db with
  | none => rw [q] at e; cases e
  | some b => rw [q] at e; cases e; exact ⟨b, in_core r hx hy q, k.keep r (.bl _)⟩
theorem DV.isN {Z : Hp} {al : List Addr} {v : V} {d : D} {b : Bool} (h : DV K Z al v d) (e : gIsN d .non = some (.bl b)) : decide (v = .non) = b := by
  cases h <;> first
    | (have e' : (some (D.bl true)) = some (.bl b) := e; cases e'; rfl)
    | (have e' : (some (D.bl false)) = some (.bl b) := e; cases e'; rfl)
    | (exact nomatch (show (none : Option D) = some (.bl b) from e))
theorem gIsN_bl {a b : D} {d : D} (e : gIsN a b = some d) : b = .non /\ ∃ c, d = .bl c := by
  unfold gIsN at e
  split at e <;> first
    | (cases e; exact ⟨rfl, _, rfl⟩)
    | cases e
theorem CR.isN {H Z : Hp} {al : List Addr} {v : V} {d : D} {b : Bool} (h : CR K H Z al v d) (e : gIsN d .non = some (.bl b)) : decide (v = .non) = b := by
  cases d with
  | lst ds => obtain ⟨a, xs, rfl, _⟩ := h; have e' : (some (D.bl false)) = some (.bl b) := e; cases e'; rfl
  | dic ds => exact nomatch (show (none : Option D) = some (.bl b) from e)
  | dit ds => exact nomatch (show (none : Option D) = some (.bl b) from e)
  | _ => exact DV.isN h e
theorem ok_isN : OpOk K cls own (fun x y H Q => y = .non /\ Q (.bl (decide (x = .non))) H) gIsN := by
  intro G al m σ H x y da db d Q r hx hy e k
  obtain ⟨rfl, c, rfl⟩ := gIsN_bl e
  cases hy.non
  refine ⟨rfl, ?_⟩
  rw [hx.isN e]
  exact k.keep r (.bl _)
theorem ok_notN : OpOk K cls own (fun x y H Q => y = .non /\ Q (.bl (!decide (x = .non))) H) gNotN := by
  intro G al m σ H x y da db d Q r hx hy e k
  unfold gNotN at e
  split at e
  · next c q =>
    cases e
    obtain ⟨rfl, c', e2⟩ := gIsN_bl q
    cases e2
    cases hy.non
    refine ⟨rfl, ?_⟩
    rw [hx.isN q]
    exact k.keep r (.bl _)
  · cases e
def gIx : D -> D -> Option D
  | .lst ds, .int i => atI ds i
  | .tup ds, .int i => atI ds i
  | .scr ns, .int i => (atI ns i).map .int
  | .str z, .int i => if fitL z.length then (atI z.cps.toList i).map fun c => .str ⟨#[c]⟩ else none
  | .dic ds, k => if isKey k then dget ds k else none
  | _, _ => none
theorem atI_DVs {Z : Hp} {al : List Addr} {xs : List V} {ds : List D} {i : Int} {d : D} (h : DVs K Z al xs ds) (e : atI ds i = some d) : ∃ v, atI xs i = some v /\ DV K Z al v d := by
  unfold atI at e ⊢
  rw [h.length]
  cases q : ixN ds.length i with
  | none => rw [q] at e; cases e
  | some j => rw [q] at e; exact h.get e
theorem atI_map {ns : List Int} {i j : Int} (e : atI ns i = some j) : atI (ns.map V.int) i = some (.int j) := by
  unfold atI at e ⊢
  rw [List.length_map]
  cases q : ixN ns.length i with
  | none => rw [q] at e; cases e
  | some j => rw [q] at e; simp only [Option.bind_some] at e ⊢; rw [List.getElem?_map, e]; rfl
def rIxAll (K : PySem.W.Frag) : R2 := fun x y H Q => rIxL K x y H Q \/ rIxT K x y H Q \/ rIxS x y H Q \/ ∃ a v, x = .ref a /\ DGet H a y (some v) /\ Q v H
theorem ix_dict {X : Cx} (hu : X.A.units + 65 < cLine) : IxR X (fun x y H Q => ∃ a v, x = .ref a /\ DGet H a y (some v) /\ Q v H) := by
  intro value slice pins s σ H x y v u Q I rx ry h hs
  obtain ⟨a, z, rfl, g, q⟩ := h
  cases rx
  exact PyProof.Rows.tail_any (dict_typeIs I g) PySem.F.slot_dict_getitem.lookup (d_getItem (by omega) I g ry fun w' s' I' r' => ⟨z, H, I', r', q⟩) hs
theorem ix_all {X : Cx} (hu : X.A.units + 65 < cLine) : IxR X (rIxAll X.K) := IxR.or ix_list (IxR.or ix_tup (IxR.or ix_str (ix_dict hu)))
theorem ok_ix : OpOk K cls own (rIxAll K.K) gIx := by
  intro G al m σ H x y da db d Q r hx hy e k
  unfold gIx at e
  split at e
  · next ds i =>
    cases hy.int
    obtain ⟨a, xs, rfl, h1, r1⟩ := hx
    obtain ⟨v, e1, e2⟩ := atI_DVs r1 e
    exact .inl ⟨a, xs, i, v, rfl, rfl, .inl (.inl h1), e1, k.keep r e2⟩
  · next ds i =>
    cases hy.int
    obtain ⟨a, xs, rfl, h1, r1⟩ := hx.tup
    obtain ⟨v, e1, e2⟩ := atI_DVs r1 e
    exact .inr (.inl ⟨a, xs, i, v, rfl, rfl, Same.tupS r.zh h1, e1, k.keep r e2⟩)
  · next ns i =>
    cases hy.int
    cases (show DV K (Zof G) al x (.scr ns) from hx) with
    | scr h =>
      cases q : atI ns i with
      | none => rw [q] at e; cases e
      | some j => rw [q] at e; cases e; exact .inl ⟨_, _, i, _, rfl, rfl, L2.Same.seq r.zh h, atI_map q, k.keep r (.int _)⟩
  · next z i =>
    split at e
    · next hf =>
      cases hy.int
      cases hx.str
      cases q : atI z.cps.toList i with
      | none => rw [q] at e; cases e
      | some j => rw [q] at e; cases e; exact .inr (.inr (.inl ⟨z, i, j, rfl, rfl, fitL_le hf, q, k.keep r (.str _)⟩))
    · cases e
  · next ds _ =>
    split at e
    · next hk =>
      obtain ⟨k0, rfl⟩ := isKey_kD hk
      cases hy.key
      obtain ⟨a, kvs, rfl, hr, e1, e2⟩ := hx
      obtain ⟨v, h1, h2⟩ := (dget_K k0 e1 e2).1 d e
      exact .inr (.inr (.inr ⟨a, v, rfl, .inl ⟨kvs, k0, hr, rfl, h1.symm⟩, k.keep r h2⟩))
    · cases e
  · cases e
end
end MI
namespace MI
open PySem PySem.Spec L2
section
variable {K : KX} {H Z : Hp} {al : List Addr}
def ints? : List D -> Option (List Int)
  | [] => some []
  | .int i :: r => (ints? r).map (i :: ·)
  | _ => none
def bls? : List D -> Option (List Bool)
  | [] => some []
  | .bl i :: r => (bls? r).map (i :: ·)
  | _ => none
theorem DVs.ints : ∀ {xs : List V} {ds : List D} {ns : List Int}, DVs K Z al xs ds -> ints? ds = some ns -> xs = ns.map V.int
  | _, _, ns, .nil, e => by cases (show some [] = some ns from e); rfl
  | _, _, ns, .cons (d := d) (ds := ds) h r, e => by
    cases d with
    | int i =>
      rw [ints?] at e
      cases q : ints? ds with
      | none => rw [q] at e; cases e
      | some ms => rw [q] at e; cases e; cases h; rw [DVs.ints r q]; rfl
    | _ => cases e
theorem DVs.bls : ∀ {xs : List V} {ds : List D} {ns : List Bool}, DVs K Z al xs ds -> bls? ds = some ns -> xs = ns.map V.bl
  | _, _, ns, .nil, e => by cases (show some [] = some ns from e); rfl
  | _, _, ns, .cons (d := d) (ds := ds) h r, e => by
    cases d with
    | bl i =>
      rw [bls?] at e
      cases q : bls? ds with
      | none => rw [q] at e; cases e
      | some ms => rw [q] at e; cases e; cases h; rw [DVs.bls r q]; rfl
    | _ => cases e
theorem CRs.one {xs : List V} {d : D} (h : CRs K H Z al xs [d]) : ∃ x, xs = [x] /\ CR K H Z al x d := by
  cases h with
  | cons h1 h2 => cases h2; exact ⟨_, rfl, h1⟩
theorem CRs.two {xs : List V} {d e : D} (h : CRs K H Z al xs [d, e]) : ∃ x y, xs = [x, y] /\ CR K H Z al x d /\ CR K H Z al y e := by
  cases h with
  | cons h1 h2 =>
    obtain ⟨y, rfl, h3⟩ := h2.one
    exact ⟨_, y, rfl, h1, h3⟩
end
section
variable {cls : Nat -> Addr} {own : Nat -> Bool} {K : KX}
def gLen : List D -> Option D
  | [.lst ds] => some (.int ds.length)
  | [.tup ds] => some (.int ds.length)
  | [.scr ns] => some (.int ns.length)
  | [.str z] => if fitL z.length then some (.int z.length) else none
  | _ => none
def rLenU (K : PySem.W.Frag) : List V -> Hp -> VK -> Prop := cOr (fun xs H Q => ∃ p ys, xs = [.ref p] /\ (SqL K H p ys \/ SqT K H p ys) /\ Q (.int ys.length) H) (fun xs H Q => ∃ z, xs = [.str z] /\ z.length <= sizeLine /\ Q (.int z.length) H)
theorem cr_lenU {X : Cx} : CallR X (.builtin "len") (rLenU X.K) := callR_or call_len_seq call_len_str
theorem ok_len : FnOkD K cls own (rLenU K.K) gLen := by
  intro G al m σ H xs da d Q r hx e k
  unfold gLen at e
  split at e
  · next ds =>
    cases e
    obtain ⟨x, rfl, a, us, rfl, h1, r1⟩ := hx.one
    exact .inl ⟨a, us, rfl, .inl (.inl (.inl h1)), by rw [r1.length]; exact k.keep r (.int _)⟩
  · next ds =>
    cases e
    obtain ⟨x, rfl, hc⟩ := hx.one
    obtain ⟨a, us, rfl, h1, r1⟩ := hc.tup
    exact .inl ⟨a, us, rfl, .inr (Same.tupS r.zh h1), by rw [r1.length]; exact k.keep r (.int _)⟩
  · next ns =>
    cases e
    obtain ⟨x, rfl, hc⟩ := hx.one
    cases (show DV K (Zof G) al x (.scr ns) from hc) with
    | scr h => exact .inl ⟨_, _, rfl, .inl (L2.Same.seq r.zh h), by rw [List.length_map]; exact k.keep r (.int _)⟩
  · next z =>
    split at e
    · next hf =>
      cases e
      obtain ⟨x, rfl, hc⟩ := hx.one
      cases hc.str
      exact .inr ⟨z, rfl, fitL_le hf, k.keep r (.int _)⟩
    · cases e
  · cases e
def gAbs : List D -> Option D
  | [.int i] => some (.int (if i < 0 then -i else i))
  | _ => none
theorem ok_abs : FnOkD K cls own (fun xs H Q => ∃ i, xs = [.int i] /\ Q (.int (if i < 0 then -i else i)) H) gAbs := by
  intro G al m σ H xs da d Q r hx e k
  unfold gAbs at e
  split at e
  · next i => cases e; obtain ⟨x, rfl, hc⟩ := hx.one; cases hc.int; exact ⟨i, rfl, k.keep r (.int _)⟩
  · cases e
def gMax2 : List D -> Option D
  | [.int i, .int j] => some (.int (if j > i then j else i))
  | _ => none
def gMin2 : List D -> Option D
  | [.int i, .int j] => some (.int (if j < i then j else i))
  | _ => none
theorem ok_max2 : FnOkD K cls own (fun xs H Q => ∃ i j, xs = [.int i, .int j] /\ Q (.int (if j > i then j else i)) H) gMax2 := by
  intro G al m σ H xs da d Q r hx e k
  unfold gMax2 at e
  split at e
  · next i j => cases e; obtain ⟨x, y, rfl, hc, hd⟩ := hx.two; cases hc.int; cases hd.int; exact ⟨i, j, rfl, k.keep r (.int _)⟩
  · cases e
theorem ok_min2 : FnOkD K cls own (fun xs H Q => ∃ i j, xs = [.int i, .int j] /\ Q (.int (if j < i then j else i)) H) gMin2 := by
  intro G al m σ H xs da d Q r hx e k
  unfold gMin2 at e
  split at e
  · next i j => cases e; obtain ⟨x, y, rfl, hc, hd⟩ := hx.two; cases hc.int; cases hd.int; exact ⟨i, j, rfl, k.keep r (.int _)⟩
  · cases e
def gAll : List D -> Option D
  | [.lst ds] => (bls? ds).map fun ns => .bl (ns.all id)
  | _ => none
theorem ok_all : FnOkD K cls own (rAll K.K) gAll := by
  intro G al m σ H xs da d Q r hx e k
  unfold gAll at e
  split at e
  · next ds =>
    cases q : bls? ds with
    | none => rw [q] at e; cases e
    | some ns =>
      rw [q] at e; cases e
      obtain ⟨x, rfl, a, us, rfl, h1, r1⟩ := hx.one
      cases r1.bls q
      exact ⟨a, ns, rfl, .inl (.inl h1), k.keep r (.bl _)⟩
  · cases e
end
end MI
namespace MI
open PySem PySem.Spec L2
section
variable {K : KX} {cls : Nat -> Addr} {own : Nat -> Bool} {G : Gh} {al : List Addr} {m : MS} {σ : St} {H : Hp}
theorem Rst.setOwn {i : Nat} {p : Addr} {o : HO} {d : D} (r : Rst K cls own G al m σ H) (hp : H p = some o) (hn : G p = none) (c : CO K (Zof G) al p o d) (ho : own i = true) :
    Rst K cls own (putG G p (.slot i) o) al { m with sl := m.sl.set i (some d) } (σ.set i (some (.ref p))) H := by
  have r' : Rst K cls own (putG G p (.slot i) o) al m σ H := r.tag hn hp
  have ev : Ev G al (putG G p (.slot i) o) al := ev_put hn
  refine ⟨r'.hst, by simp [r.len], fun j e hj hoj => ?_, fun j e hj hoj => ?_⟩
  · rcases getSet hj with ⟨rfl, hl, e1⟩ | ⟨ne, hj⟩
    · rw [ho] at hoj; cases hoj
    · obtain ⟨u, h1, h2⟩ := r'.val j e hj hoj
      exact ⟨u, by rw [List.getElem?_set_ne (Ne.symm ne)]; exact h1, h2⟩
  · rcases getSet hj with ⟨rfl, hl, e1⟩ | ⟨ne, hj⟩
    · cases e1
      exact ⟨p, o, by rw [List.getElem?_set_self (by rw [r.len]; exact hl)], putG_same, c.mono ev.same ev.al⟩
    · obtain ⟨a, ob, h1, h2, h3⟩ := r'.own j e hj hoj
      exact ⟨a, ob, by rw [List.getElem?_set_ne (Ne.symm ne)]; exact h1, h2, h3⟩
theorem Rst.write {i : Nat} {a : Addr} {o o' : HO} {d d' : D} (r : Rst K cls own G al m σ H) (hi : m.sl[i]? = some (some d)) (ho : own i = true) (hs : σ[i]? = some (some (.ref a))) (hg : G a = some (.slot i, o)) (c : CO K (Zof G) al a o' d') :
    Ev G al (putG G a (.slot i) o') al /\ Rst K cls own (putG G a (.slot i) o') al { m with sl := m.sl.set i (some d') } σ (upd H a o') := by
  have ne : ∀ {b t u}, G b = some (t, u) -> t ≠ .slot i -> b ≠ a := fun e h z => by subst z; rw [hg] at e; cases e; exact h rfl
  have ev : Ev G al (putG G a (.slot i) o') al := ⟨fun b u e => by rw [putG_ne (ne e (by intro z; cases z))]; exact e, fun b u e => by rw [putG_ne (ne e (by intro z; cases z))]; exact e, List.prefix_refl _⟩
  refine ⟨ev, ⟨⟨fun b t u e => ?_, r.hst.len, fun n ob e hg => ?_⟩, by simp [r.len], fun j e hj hoj => ?_, fun j e hj hoj => ?_⟩⟩
  · by_cases hb : b = a
    · subst hb; rw [putG_same] at e; cases e; exact upd_same
    · rw [putG_ne hb] at e; rw [upd_ne hb]; exact r.hst.gh b t u e
  · obtain ⟨b, h1, h2⟩ := r.hst.sto n ob e hg
    refine ⟨b, h1, ?_⟩
    obtain ⟨o1, e1, r1⟩ := h2
    exact ⟨o1, by rw [putG_ne (ne e1 (by intro z; cases z))]; exact e1, r1.mono ev.same ev.al⟩
  · rcases getSet hj with ⟨rfl, hl, e1⟩ | ⟨ne', hj⟩
    · rw [ho] at hoj; cases hoj
    · obtain ⟨u, h1, h2⟩ := r.val j e hj hoj
      exact ⟨u, h1, h2.ev ev⟩
  · rcases getSet hj with ⟨rfl, hl, e1⟩ | ⟨ne', hj⟩
    · cases e1
      exact ⟨a, o', hs, putG_same, c.mono ev.same ev.al⟩
    · obtain ⟨b, ob, h1, h2, h3⟩ := r.own j e hj hoj
      exact ⟨b, ob, h1, by rw [putG_ne (ne h2 (by intro z; cases z; exact ne' rfl))]; exact h2, h3.mono ev.same ev.al⟩
end
def looksV (hs : List Hd) : Option (List D) := hs.mapM fun h => match h with
  | .val d => some d
  | .slot _ => none
def eTup (fa : Den (List Hd)) : Den D := fa.bind fun hs => fun m => match looksV hs with
  | some ds => if fitL ds.length then .ok (.tup ds) m else .bad
  | none => .bad
def eLst (fa : Den (List Hd)) : Den D := fa.bind fun hs => fun m => match looksV hs with
  | some ds => if fitL ds.length then .ok (.lst ds) m else .bad
  | none => .bad
theorem looksV_dv {K : KX} {own : Nat -> Bool} {G : Gh} {al : List Addr} {σ : St} : ∀ {vs : List V} {hs : List Hd} {ds : List D}, HVs K own G al σ vs hs -> looksV hs = some ds -> DVs K (Zof G) al vs ds
  | _, _, ds, .nil, e => by
    have e : some [] = some ds := e
    cases e; exact .nil
  | _, _, ds, .cons (h := h) (hs := hs) hv hr, e => by
    unfold looksV at e
    rw [List.mapM_cons] at e
    cases h with
    | slot i => simp at e
    | val d =>
      cases e2 : looksV hs with
      | none =>
        unfold looksV at e2
        simp [e2] at e
      | some ds2 =>
        have e3 := e2
        unfold looksV at e3
        simp [e3] at e
        subst e
        exact .cons hv (looksV_dv hr e2)
section
variable {cls : Nat -> Addr} {own : Nat -> Bool} {X : Cx} {a b : Expr} {fa fb : Den Hd} {pos : Pos} {es : List Expr} {fs : Den (List Hd)}
theorem se_tup {x1} (h : SHs cls own X es fs) : SE cls own X (.Tuple es x1 pos) (eTup fs) := by
  refine pe_imp (pe_tupF h) fun σ H Q q => ?_
  obtain ⟨G, al, m, d, m', r, e, k⟩ := q
  obtain ⟨hs, m1, e1, e⟩ := bind_ok e
  split at e
  · next ds l =>
    split at e
    · next hf =>
      cases e
      refine ⟨G, al, m, hs, _, r, e1, fun G1 al1 v H1 ev1 r1 hv1 => ?_⟩
      have dv := looksV_dv hv1 l
      exact ⟨by rw [dv.length]; exact fitL_le hf, fun p ob hp hdb => Post.tup (fun G2 al2 v2 H2 ev2 r2 dv2 => k G2 al2 v2 H2 (ev1.trans ev2) r2 dv2) r1 dv hp hdb⟩
    · cases e
  · cases e
theorem sf_lst (h : SHs cls own X es fs) : SF cls own X (.List es pos) (eLst fs) := by
  refine pe_imp (pe_lst h) fun σ H Q q => ?_
  obtain ⟨G, al, m, d, m', r, e, k⟩ := q
  obtain ⟨hs, m1, e1, e⟩ := bind_ok e
  split at e
  · next ds l =>
    split at e
    · next hf =>
      cases e
      refine ⟨G, al, m, hs, _, r, e1, fun G1 al1 v H1 ev1 r1 hv1 => ?_⟩
      have dv := looksV_dv hv1 l
      exact ⟨by rw [dv.length]; exact fitL_le hf, fun p hp => PostF.lst (fun G2 al2 v2 o2 H2 ev2 r2 h2 n2 c2 => k G2 al2 v2 o2 H2 (ev1.trans ev2) r2 h2 n2 c2) r1 dv hp⟩
    · cases e
  · cases e
def gTru : D -> Option Bool
  | .non => some false
  | .bl b => some b
  | .int i => some (i != 0)
  | .str z => if fitL z.length then some ((z.length : Int) != 0) else none
  | .lst ds => some (!ds.isEmpty)
  | .tup ds => some (!ds.isEmpty)
  | _ => none
def bTru (fa : Den Hd) : Den Bool := fa.bind fun h => fun m => match look h m with
  | some d => match gTru d with
    | some b => .ok b m
    | none => .bad
  | none => .bad
def bOf (f : Den D) : Den Bool := f.bind fun d => fun m => match d with
  | .bl b => .ok b m
  | _ => .bad
theorem isEmpty_dvs {K : KX} {Z : Hp} {al : List Addr} {xs : List V} {ds : List D} (h : DVs K Z al xs ds) : (!ds.isEmpty) = !xs.isEmpty := by cases h <;> rfl
theorem tru_of {K : KX} {H Z : Hp} {al : List Addr} {v : V} {d : D} {b : Bool} (s : Same Z H) (h : CR K H Z al v d) (e : gTru d = some b) : TruV K.K v H b := by
  cases d with
  | non => cases e; cases h.non; rfl
  | bl c => cases e; cases h.bl; rfl
  | int i => cases e; cases h.int; rfl
  | str z =>
    have e : (if fitL z.length then some ((z.length : Int) != 0) else none) = some b := e
    split at e
    · next hf => cases e; cases h.str; exact ⟨fitL_le hf, rfl⟩
    · cases e
  | lst ds =>
    cases e
    obtain ⟨a, xs, rfl, h1, r⟩ := h
    exact .inl ⟨xs, .inl (.inl h1), isEmpty_dvs r⟩
  | tup ds =>
    cases e
    obtain ⟨a, xs, rfl, h1, r⟩ := CR.tup h
    exact .inr (.inl ⟨xs, Same.tupS s h1, isEmpty_dvs r⟩)
  | _ => cases e
theorem sb_tru (h : SH cls own X a fa) (he : ∀ whole, isTrue a X.env whole = (do let v <- whole; standAt a.pos; holding [v] (truthy v)) := by intro _; rfl) : SB cls own X a (bTru fa) := by
  refine pt_imp (pt_truth h he) fun σ H Q q => ?_
  obtain ⟨G, al, m, d, m', r, e, k⟩ := q
  obtain ⟨h1, m1, e1, e⟩ := bind_ok e
  split at e
  · next x l =>
    split at e
    · next b t =>
      cases e
      refine ⟨G, al, m, h1, _, r, e1, fun G1 al1 v H1 ev1 r1 hv1 => ?_⟩
      exact ⟨_, tru_of r1.zh (look_cr r1 hv1 l) t, k G1 al1 H1 ev1 r1⟩
    · cases e
  · cases e
theorem sb_cmp {op : CmpOp} {r : R2} {g : D -> D -> Option D} (ho : OpR X (compareOp op) r) (hg : OpOk X.kx cls own r g) (ha : SH cls own X a fa) (hb : SH cls own X b fb) (hm : behindInMarks op b = false := by first | exact nobehind _ (by decide) (by decide) | rfl) :
    SB cls own X (.Compare a [op] [b] pos) (bOf (eOp g fa fb)) := by
  refine pt_imp (pt_cmpR ho ha hb hm) fun σ H Q q => ?_
  obtain ⟨G, al, m, d, m', r, e, k⟩ := q
  obtain ⟨d1, m1, e1, e⟩ := bind_ok e
  split at e
  · next c =>
    cases e
    obtain ⟨h1, m1, h2, x, y, e1, e2, l1, l2, gz⟩ := eOp_ok e1
    refine ⟨G, al, m, h1, m1, r, e1, fun G1 al1 v H1 ev1 r1 hv1 => ⟨G1, al1, m1, h2, _, r1, e2, fun G2 al2 u H2 ev2 r2 hv2 => ?_⟩⟩
    refine hg G2 al2 _ σ H2 v u x y _ _ r2 (look_cr r2 (hv1.ev ev2) l1) (look_cr r2 hv2 l2) gz fun G3 al3 w H3 ev3 r3 dv => ?_
    cases dv
    exact ⟨_, rfl, k G3 al3 H3 ((ev1.trans ev2).trans ev3) r3⟩
  · cases e
def bAnd (f g : Den Bool) : Den Bool := f.bind fun c => if c then g else .ret false
def bOr (f g : Den Bool) : Den Bool := f.bind fun c => if c then .ret true else g
def bNot (f : Den Bool) : Den Bool := f.bind fun c => .ret (!c)
abbrev SW (cls : Nat -> Addr) (own : Nat -> Bool) (X : Cx) (e : Expr) (f : Den Bool) : Prop := PW X e (tDb X.kx cls own f)
theorem pw_imp {X : Cx} {e : Expr} {t t' : TT} (h : PW X e t) (i : ∀ σ H Q, t' σ H Q -> t σ H Q) : PW X e t' := ⟨fun w pins s σ H Q I q => h.run w pins s σ H Q I (i σ H Q q)⟩
theorem tAnd_of {K : KX} {f g : Den Bool} {σ : St} {H : Hp} {Q : Bool -> Hp -> Prop} (q : tDb K cls own (bAnd f g) σ H Q) : tAnd (tDb K cls own f) (tDb K cls own g) σ H Q := by
  obtain ⟨G, al, m, d, m', r, e, k⟩ := q
  obtain ⟨c, m1, e1, e⟩ := bind_ok e
  refine ⟨G, al, m, c, m1, r, e1, fun G1 al1 H1 ev1 r1 => ?_⟩
  cases c with
  | true => exact ⟨G1, al1, m1, d, m', r1, e, fun G2 al2 H2 ev2 r2 => k G2 al2 H2 (ev1.trans ev2) r2⟩
  | false => cases e; exact k G1 al1 H1 ev1 r1
theorem tOr_of {K : KX} {f g : Den Bool} {σ : St} {H : Hp} {Q : Bool -> Hp -> Prop} (q : tDb K cls own (bOr f g) σ H Q) : tOr (tDb K cls own f) (tDb K cls own g) σ H Q := by
  obtain ⟨G, al, m, d, m', r, e, k⟩ := q
  obtain ⟨c, m1, e1, e⟩ := bind_ok e
  refine ⟨G, al, m, c, m1, r, e1, fun G1 al1 H1 ev1 r1 => ?_⟩
  cases c with
  | false => exact ⟨G1, al1, m1, d, m', r1, e, fun G2 al2 H2 ev2 r2 => k G2 al2 H2 (ev1.trans ev2) r2⟩
  | true => cases e; exact k G1 al1 H1 ev1 r1
theorem sw_and1 {f : Den Bool} (h : SB cls own X a f) : SW cls own X (.BoolOp .And [a] pos) f := pw_and1 h
theorem sw_or1 {f : Den Bool} (h : SB cls own X a f) : SW cls own X (.BoolOp .Or [a] pos) f := pw_or1 h
theorem sw_and {f g : Den Bool} {rest : List Expr} (h : SB cls own X a f) (hr : SW cls own X (.BoolOp .And (b :: rest) pos) g) : SW cls own X (.BoolOp .And (a :: b :: rest) pos) (bAnd f g) := pw_imp (pw_and h hr) fun _ _ _ q => tAnd_of q
theorem sw_or {f g : Den Bool} {rest : List Expr} (h : SB cls own X a f) (hr : SW cls own X (.BoolOp .Or (b :: rest) pos) g) : SW cls own X (.BoolOp .Or (a :: b :: rest) pos) (bOr f g) := pw_imp (pw_or h hr) fun _ _ _ q => tOr_of q
theorem sb_w {f : Den Bool} (h : SW cls own X a f) : SB cls own X a f := h.pt
theorem sb_not {f : Den Bool} (h : SB cls own X a f) : SB cls own X (.UnaryOp .Not a pos) (bNot f) := by
  refine pt_imp (pt_not h) fun σ H Q q => ?_
  obtain ⟨G, al, m, d, m', r, e, k⟩ := q
  obtain ⟨c, m1, e1, e⟩ := bind_ok e
  cases e
  exact ⟨G, al, m, c, _, r, e1, fun G1 al1 H1 ev1 r1 => k G1 al1 H1 ev1 r1⟩
def eAnd (f g : Den D) : Den D := (bOf f).bind fun c => if c then g else .ret (.bl false)
def eOr (f g : Den D) : Den D := (bOf f).bind fun c => if c then .ret (.bl true) else g
def eNot (f : Den D) : Den D := (bOf f).bind fun c => .ret (.bl (!c))
def eIf (c : Den Bool) (f g : Den D) : Den D := c.bind fun c => if c then f else g
theorem bOf_ok {f : Den D} {m m' : MS} {b : Bool} (h : bOf f m = .ok b m') : f m = .ok (.bl b) m' := by
  obtain ⟨d, m1, e1, e⟩ := bind_ok h
  split at e
  · cases e; exact e1
  · cases e
theorem se_one {op} {f : Den D} (h : SE cls own X a f) : SE cls own X (.BoolOp op [a] pos) f := pe_one h
theorem se_and {f g : Den D} {rest : List Expr} (h : SE cls own X a f) (hr : SE cls own X (.BoolOp .And (b :: rest) pos) g) : SE cls own X (.BoolOp .And (a :: b :: rest) pos) (eAnd f g) := by
  refine pe_imp (pe_and h hr) fun σ H Q q => ?_
  obtain ⟨G, al, m, d, m', r, e, k⟩ := q
  obtain ⟨c, m1, e1, e⟩ := bind_ok e
  refine ⟨G, al, m, _, m1, r, bOf_ok e1, fun G1 al1 v H1 ev1 r1 dv => ?_⟩
  cases dv
  refine ⟨c, rfl, ?_⟩
  cases c with
  | true => exact ⟨G1, al1, m1, d, m', r1, e, fun G2 al2 v2 H2 ev2 r2 => k G2 al2 v2 H2 (ev1.trans ev2) r2⟩
  | false => cases e; exact k G1 al1 _ H1 ev1 r1 (.bl _)
theorem se_not {f : Den D} (h : SE cls own X a f) : SE cls own X (.UnaryOp .Not a pos) (eNot f) := by
  refine pe_imp (pe_not h) fun σ H Q q => ?_
  obtain ⟨G, al, m, d, m', r, e, k⟩ := q
  obtain ⟨c, m1, e1, e⟩ := bind_ok e
  cases e
  refine ⟨G, al, m, _, _, r, bOf_ok e1, fun G1 al1 v H1 ev1 r1 dv => ?_⟩
  cases dv
  exact ⟨c, rfl, k G1 al1 _ H1 ev1 r1 (.bl _)⟩
theorem se_if {c : Expr} {fc : Den Bool} {f g : Den D} (hc : SB cls own X c fc) (ha : SE cls own X a f) (hb : SE cls own X b g) : SE cls own X (.IfExp c a b pos) (eIf fc f g) := by
  refine pe_imp (pe_ifExp hc ha hb) fun σ H Q q => ?_
  obtain ⟨G, al, m, d, m', r, e, k⟩ := q
  obtain ⟨c, m1, e1, e⟩ := bind_ok e
  refine ⟨G, al, m, c, m1, r, e1, fun G1 al1 H1 ev1 r1 => ?_⟩
  cases c with
  | true => exact ⟨G1, al1, m1, d, m', r1, e, fun G2 al2 v2 H2 ev2 r2 => k G2 al2 v2 H2 (ev1.trans ev2) r2⟩
  | false => exact ⟨G1, al1, m1, d, m', r1, e, fun G2 al2 v2 H2 ev2 r2 => k G2 al2 v2 H2 (ev1.trans ev2) r2⟩
end
end MI
namespace MI
open PySem PySem.Spec L2
def eMut (i : Nat) (g : List D -> List D -> Option (D × List D)) (fa : Den (List D)) : Den D := fun m => match m.sl[i]? with
  | some (some (.lst _)) => match fa m with
    | .ok xs m1 => match m1.sl[i]? with
      | some (some (.lst ds)) => match g ds xs with
        | some (z, ds') => .ok z { m1 with sl := m1.sl.set i (some (.lst ds')) }
        | none => .bad
      | _ => .bad
    | .bad => .bad
  | _ => .bad
def aVals (fa : Den (List Hd)) : Den (List D) := fa.bind fun hs => fun m => match looksV hs with
  | some ds => .ok ds m
  | none => .bad
def aLooks (fa : Den (List Hd)) : Den (List D) := fa.bind fun hs => fun m => match looks hs m with
  | some ds => .ok ds m
  | none => .bad
theorem aVals_ok {fa : Den (List Hd)} {m m' : MS} {ds : List D} (e : aVals fa m = .ok ds m') : ∃ hs, fa m = .ok hs m' /\ looksV hs = some ds := by
  obtain ⟨hs, m1, e1, e⟩ := bind_ok e
  split at e
  · next l => cases e; exact ⟨hs, e1, l⟩
  · cases e
theorem aLooks_ok {fa : Den (List Hd)} {m m' : MS} {ds : List D} (e : aLooks fa m = .ok ds m') : ∃ hs, fa m = .ok hs m' /\ looks hs m' = some ds := by
  obtain ⟨hs, m1, e1, e⟩ := bind_ok e
  split at e
  · next l => cases e; exact ⟨hs, e1, l⟩
  · cases e
theorem eMut_ok {i : Nat} {g : List D -> List D -> Option (D × List D)} {fa : Den (List D)} {m m' : MS} {z : D} (e : eMut i g fa m = .ok z m') :
    ∃ ds0 xs m1 ds ds', m.sl[i]? = some (some (.lst ds0)) /\ fa m = .ok xs m1 /\ m1.sl[i]? = some (some (.lst ds)) /\ g ds xs = some (z, ds') /\ m' = { m1 with sl := m1.sl.set i (some (.lst ds')) } := by
  unfold eMut at e
  split at e
  · next ds0 e0 =>
    split at e
    · next xs m1 e1 =>
      split at e
      · next ds e2 =>
        split at e
        · next z' ds' e3 => cases e; exact ⟨ds0, xs, m1, ds, ds', e0, e1, e2, e3, rfl⟩
        · cases e
      · cases e
    · cases e
  · cases e
def gAppend : List D -> List D -> Option (D × List D)
  | ds, [x] => if ds.length < sizeLine then some (.non, ds ++ [x]) else none
  | _, _ => none
def gExtend : List D -> List D -> Option (D × List D)
  | ds, [.lst xs] => if ds.length + xs.length <= sizeLine then some (.non, ds ++ xs) else none
  | _, _ => none
section
variable {cls : Nat -> Addr} {own : Nat -> Bool} {X : Cx} {a b : Expr} {fa fb : Den Hd} {pos apos cpos npos : Pos} {es : List Expr} {fs : Den (List Hd)} {i : Nat} {x : Str}
theorem own_lst {K : KX} {G : Gh} {al : List Addr} {m : MS} {σ : St} {H : Hp} {ds : List D} (r : Rst K cls own G al m σ H) (ho : own i = true) (e : m.sl[i]? = some (some (.lst ds))) :
    ∃ a xs, σ[i]? = some (some (.ref a)) /\ G a = some (.slot i, .lst xs) /\ H a = some (.lst xs) /\ DVs K (Zof G) al xs ds := by
  obtain ⟨a, o, h1, h2, h3⟩ := r.own i _ e ho
  obtain ⟨xs, rfl, h4⟩ := h3.lst
  exact ⟨a, xs, h1, h2, r.hst.gh _ _ _ h2, h4⟩
theorem se_append (hN : X.N[i]? = some x) (hv : Vis X.env.scope x) (ho : own i = true) (ha : SHs cls own X (a :: es) fs)
    (hd : (x == ("__debug__" : Str)) = false := by decide) (hcd : (x == ("__classdict__" : Str)) = false := by decide)
    (hbase : attributeBase (.Name x npos) "append" X.env (eval (.Name x npos) X.env) = eval (.Name x npos) X.env := by rfl)
    (hfew : ((backTo cpos (starEach (a :: es) X.env)).all (fun x => !x.1) && (backToKw cpos (keywordEach [] X.env)).all (fun x => x.1.isSome)
      && decide ((a :: es).length + ([] : List Keyword).length + (if ([] : List Keyword).isEmpty then 0 else 1) < 30)) = true := by rfl)
    (hline : (apos.endLine == cpos.line) = true := by rfl) (hs : starEach (a :: es) X.env = (false, eval a X.env) :: starEach es X.env := by rfl) (hplain : (backTo cpos (starEach es X.env)).any (·.1) = false := by rfl) :
    SE cls own X (.Call (.Attribute (.Name x npos) "append" apos) (a :: es) [] cpos) (eMut i gAppend (aVals fs)) := by
  refine pe_imp (pe_bm PySem.F.plainAttrs_list PySem.F.slot_list_append PySem.F.type_list_append mt_append (pe_var (pos := npos) hN hv hd hcd) ha hbase hfew hline hs hplain) fun σ H Q q => ?_
  obtain ⟨G, al, m, d, m', r, e, k⟩ := q
  obtain ⟨ds0, xs, m1, ds, ds', e0, e1, e2, e3, rfl⟩ := eMut_ok e
  obtain ⟨hs, e1, l⟩ := aVals_ok e1
  obtain ⟨p, us0, s0, _, h0, _⟩ := own_lst r ho e0
  refine ⟨.ref p, s0, .inl ⟨rfl, us0, .inl (.inl h0)⟩, G, al, m, hs, m1, r, e1, fun G1 al1 v H1 ev1 r1 hv1 => ?_⟩
  obtain ⟨p', us, s1, g1, h1, c1⟩ := own_lst r1 ho e2
  rw [s0] at s1; cases s1
  unfold gAppend at e3
  split at e3
  · next y =>
    split at e3
    · next hf =>
      cases e3
      have dv := looksV_dv hv1 l
      cases dv with
      | cons d1 d2 =>
        cases d2
        obtain ⟨ev2, r2⟩ := r1.write e2 ho s0 g1 (o' := .lst (us ++ [_])) (d' := .lst (ds ++ [y])) (c1.append (.cons d1 .nil))
        exact ⟨p, us, _, rfl, rfl, h1, by rw [c1.length]; exact hf, k _ _ _ _ (ev1.trans ev2) r2 .non⟩
    · cases e3
  · cases e3
theorem se_extend (hN : X.N[i]? = some x) (hv : Vis X.env.scope x) (ho : own i = true) (ha : SHs cls own X (a :: es) fs)
    (hd : (x == ("__debug__" : Str)) = false := by decide) (hcd : (x == ("__classdict__" : Str)) = false := by decide)
    (hbase : attributeBase (.Name x npos) "extend" X.env (eval (.Name x npos) X.env) = eval (.Name x npos) X.env := by rfl)
    (hfew : ((backTo cpos (starEach (a :: es) X.env)).all (fun x => !x.1) && (backToKw cpos (keywordEach [] X.env)).all (fun x => x.1.isSome)
      && decide ((a :: es).length + ([] : List Keyword).length + (if ([] : List Keyword).isEmpty then 0 else 1) < 30)) = true := by rfl)
    (hline : (apos.endLine == cpos.line) = true := by rfl) (hs : starEach (a :: es) X.env = (false, eval a X.env) :: starEach es X.env := by rfl) (hplain : (backTo cpos (starEach es X.env)).any (·.1) = false := by rfl) :
    SE cls own X (.Call (.Attribute (.Name x npos) "extend" apos) (a :: es) [] cpos) (eMut i gExtend (aLooks fs)) := by
  refine pe_imp (pe_bm PySem.F.plainAttrs_list PySem.F.slot_list_extend PySem.F.type_list_extend mt_extend (pe_var (pos := npos) hN hv hd hcd) ha hbase hfew hline hs hplain) fun σ H Q q => ?_
  obtain ⟨G, al, m, d, m', r, e, k⟩ := q
  obtain ⟨ds0, xs, m1, ds, ds', e0, e1, e2, e3, rfl⟩ := eMut_ok e
  obtain ⟨hs, e1, l⟩ := aLooks_ok e1
  obtain ⟨p, us0, s0, _, h0, _⟩ := own_lst r ho e0
  refine ⟨.ref p, s0, .inl ⟨rfl, us0, .inl (.inl h0)⟩, G, al, m, hs, m1, r, e1, fun G1 al1 v H1 ev1 r1 hv1 => ?_⟩
  obtain ⟨p', us, s1, g1, h1, c1⟩ := own_lst r1 ho e2
  rw [s0] at s1; cases s1
  unfold gExtend at e3
  split at e3
  · next ys =>
    split at e3
    · next hf =>
      cases e3
      obtain ⟨w, rfl, bq, zs, rfl, hb, rb⟩ := (looks_cr r1 hv1 l).one
      obtain ⟨ev2, r2⟩ := r1.write e2 ho s0 g1 (o' := .lst (us ++ zs)) (d' := .lst (ds ++ ys)) (c1.append rb)
      exact ⟨p, bq, us, zs, rfl, rfl, h1, hb, by rw [c1.length, rb.length]; exact hf, k _ _ _ _ (ev1.trans ev2) r2 .non⟩
    · cases e3
  · cases e3
end
inductive Fl where
  | nx | rt (d : D) | bk | ct | xc (c : Nat) (fs : List (Str × D))
def Wx (X : Cx) : WX := fun c d σ H => ∀ u s', XE X (fun c' d' σ' H' => c' = c /\ d' = d /\ σ' = σ /\ H' = H) u s' -> X.xe u s'
theorem wx_takes {X : Cx} : Takes X (Wx X) := fun u s' ⟨a, B, sI, pins, σ, H, cls, d, e, I, nb, up, sky, na, os, ag, w⟩ =>
  w u s' ⟨a, B, sI, pins, σ, H, cls, d, e, I, nb, up, sky, na, os, ag, rfl, rfl, rfl, rfl⟩
theorem wx_of {X : Cx} {W : WX} (t : Takes X W) {c : Value} {d : Option Addr} {σ : St} {H : Hp} (w : W c d σ H) : Wx X c d σ H := fun u s' ⟨a, B, sI, pins, σ', H', cls, d', e, I, nb, up, sky, na, os, ag, h1, h2, h3, h4⟩ =>
  t u s' ⟨a, B, sI, pins, σ', H', cls, d', e, I, nb, up, sky, na, os, ag, by subst h1 h2 h3 h4; exact w⟩
def XF (K : KX) (Z : Hp) (al : List Addr) (_ : Hp) (d : Option Addr) (fs : List (Str × D)) : Prop := XFz K Z al d fs
def EndsD (X : Cx) (cls : Nat -> Addr) (Z : Hp) (al : List Addr) (E : Ends) (σ : St) (H : Hp) : Fl -> Prop
  | .xc c fs => ∀ d, XF X.kx Z al H d fs -> Wx X (.ref (cls c)) d σ H
  | .nx => E.nx σ H
  | .rt d => ∀ v, DV X.kx Z al v d -> E.rt v H
  | .bk => E.bk σ H
  | .ct => E.ct σ H
def tS (X : Cx) (cls : Nat -> Addr) (own : Nat -> Bool) (f : Den Fl) : TS := fun E σ H => ∃ G al m fl m', Rst X.kx cls own G al m σ H /\ f m = .ok fl m' /\
  ∀ G' al' σ' H', Ev G al G' al' -> Rst X.kx cls own G' al' m' σ' H' -> EndsD X cls (Zof G') al' E σ' H' fl
section
variable (cls : Nat -> Addr) (own : Nat -> Bool) (X : Cx)
abbrev SS (e : Stmt) (f : Den Fl) : Prop := PS X e (tS X cls own f)
abbrev SSs (e : List Stmt) (f : Den Fl) : Prop := PSs X e (tS X cls own f)
end
def sSeq (f g : Den Fl) : Den Fl := f.bind fun fl => match fl with
  | .nx => g
  | fl => .ret fl
def sNx : Den Fl := .ret .nx
def sDrop (f : Den D) : Den Fl := f.bind fun _ => .ret .nx
def sRet (f : Den D) : Den Fl := f.bind fun d => .ret (.rt d)
def sIf (c : Den Bool) (f g : Den Fl) : Den Fl := c.bind fun b => if b then f else g
def sSet (i : Nat) (f : Den D) : Den Fl := f.bind fun d => fun m => .ok .nx { m with sl := m.sl.set i (some d) }
section
variable {cls : Nat -> Addr} {own : Nat -> Bool} {X : Cx} {a b : Expr} {pos : Pos} {st : Stmt} {sts : List Stmt} {f g : Den Fl}
theorem ss_nil : SSs cls own X [] sNx := pss_imp pss_nil fun E σ H ⟨G, al, m, fl, m', r, e, k⟩ => by cases e; exact k G al σ H .refl r
theorem ss_cons (h : SS cls own X st f) (hr : SSs cls own X sts g) : SSs cls own X (st :: sts) (sSeq f g) := by
  refine pss_imp (pss_cons h hr) fun E σ H q => ?_
  obtain ⟨G, al, m, fl, m', r, e, k⟩ := q
  obtain ⟨fl1, m1, e1, e⟩ := bind_ok e
  refine ⟨G, al, m, fl1, m1, r, e1, fun G1 al1 σ1 H1 ev1 r1 => ?_⟩
  cases fl1 with
  | nx => exact ⟨G1, al1, m1, fl, m', r1, e, fun G2 al2 σ2 H2 ev2 r2 => k G2 al2 σ2 H2 (ev1.trans ev2) r2⟩
  | rt d => cases e; exact k G1 al1 σ1 H1 ev1 r1
  | bk => cases e; exact k G1 al1 σ1 H1 ev1 r1
  | ct => cases e; exact k G1 al1 σ1 H1 ev1 r1
  | xc c fs => cases e; exact k G1 al1 σ1 H1 ev1 r1
theorem ss_one (h : SS cls own X st f) : SSs cls own X [st] f := pss_one h
theorem ss_never : SS cls own X st (fun _ => .bad) := ps_imp ps_never fun E σ H ⟨G, al, m, fl, m', r, e, k⟩ => by cases e
theorem ss_expr {fe : Den D} (h : SE cls own X a fe) (hs : swapsWith a none pos.line X.env = pure false := by rfl) : SS cls own X (.Expr a pos) (sDrop fe) := by
  refine ps_imp (ps_expr h hs) fun E σ H q => ?_
  obtain ⟨G, al, m, fl, m', r, e, k⟩ := q
  obtain ⟨d, m1, e1, e⟩ := bind_ok e
  cases e
  exact ⟨G, al, m, d, _, r, e1, fun G1 al1 v H1 ev1 r1 dv => k G1 al1 σ H1 ev1 r1⟩
theorem ss_ret {fe : Den D} (h : SE cls own X a fe) : SS cls own X (.Return (some a) pos) (sRet fe) := by
  refine ps_imp (ps_ret h) fun E σ H q => ?_
  obtain ⟨G, al, m, fl, m', r, e, k⟩ := q
  obtain ⟨d, m1, e1, e⟩ := bind_ok e
  cases e
  exact ⟨G, al, m, d, _, r, e1, fun G1 al1 v H1 ev1 r1 dv => k G1 al1 σ H1 ev1 r1 v dv⟩
theorem ss_if {c : Expr} {sa sb : List Stmt} {fc : Den Bool} (hc : SB cls own X c fc) (ha : SSs cls own X sa f) (hb : SSs cls own X sb g) : SS cls own X (.If c sa sb pos) (sIf fc f g) := by
  refine ps_imp (ps_if hc ha hb) fun E σ H q => ?_
  obtain ⟨G, al, m, fl, m', r, e, k⟩ := q
  obtain ⟨d, m1, e1, e⟩ := bind_ok e
  refine ⟨G, al, m, d, m1, r, e1, fun G1 al1 H1 ev1 r1 => ?_⟩
  cases d with
  | true => exact ⟨G1, al1, m1, fl, m', r1, e, fun G2 al2 σ2 H2 ev2 r2 => k G2 al2 σ2 H2 (ev1.trans ev2) r2⟩
  | false => exact ⟨G1, al1, m1, fl, m', r1, e, fun G2 al2 σ2 H2 ev2 r2 => k G2 al2 σ2 H2 (ev1.trans ev2) r2⟩
theorem ss_set {i : Nat} {x : Str} {pos' : Pos} {fe : Den D} (ho : own i = false) (hN : X.N.Nodup) (hi : X.N[i]? = some x) (hx : Loc X.env.scope x) (h : SE cls own X a fe) (hs : swapsWith a (some (.Name x pos')) pos.line X.env = pure false := by rfl)
    (hf : X.fn x = true \/ X.env.scope.names.lookup x = some .local := by first | exact .inl rfl | exact .inr rfl | assumption) : SS cls own X (.Assign [.Name x pos'] a pos) (sSet i fe) := by
  refine ps_imp (ps_set hN hi hx h hs hf) fun E σ H q => ?_
  obtain ⟨G, al, m, fl, m', r, e, k⟩ := q
  obtain ⟨d, m1, e1, e⟩ := bind_ok e
  cases e
  exact ⟨G, al, m, d, _, r, e1, fun G1 al1 v H1 ev1 r1 dv => k G1 al1 _ H1 ev1 (r1.set dv ho)⟩
theorem ss_own {i : Nat} {x : Str} {pos' : Pos} {fe : Den D} (ho : own i = true) (hN : X.N.Nodup) (hi : X.N[i]? = some x) (hx : Loc X.env.scope x) (h : SF cls own X a fe) (hs : swapsWith a (some (.Name x pos')) pos.line X.env = pure false := by rfl)
    (hf : X.fn x = true \/ X.env.scope.names.lookup x = some .local := by first | exact .inl rfl | exact .inr rfl | assumption) : SS cls own X (.Assign [.Name x pos'] a pos) (sSet i fe) := by
  refine ps_imp (ps_set hN hi hx h hs hf) fun E σ H q => ?_
  obtain ⟨G, al, m, fl, m', r, e, k⟩ := q
  obtain ⟨d, m1, e1, e⟩ := bind_ok e
  cases e
  exact ⟨G, al, m, d, _, r, e1, fun G1 al1 p o H1 ev1 r1 hp hn c => k _ al1 _ H1 (ev1.trans (ev_put hn)) (r1.setOwn hp hn c ho)⟩
end
end MI
namespace MI
open PySem PySem.Spec L2
inductive Tg where
  | nm (i : Nat)
  | tp (ts : List Tg)
mutual
def tgSet : Tg -> D -> List (Option D) -> Option (List (Option D))
  | .nm i, d, sl => some (sl.set i (some d))
  | .tp ts, .tup ds, sl => tgSets ts ds sl
  | .tp _, _, _ => none
def tgSets : List Tg -> List D -> List (Option D) -> Option (List (Option D))
  | [], [], sl => some sl
  | t :: ts, d :: ds, sl => match tgSet t d sl with
    | some sl' => tgSets ts ds sl'
    | none => none
  | _, _, _ => none
end
mutual
def tgSlots : Tg -> List Nat
  | .nm i => [i]
  | .tp ts => tgSlotss ts
def tgSlotss : List Tg -> List Nat
  | [] => []
  | t :: ts => tgSlots t ++ tgSlotss ts
end
def Beside (vs : List Nat) (σ σ' : St) : Prop := σ'.length = σ.length /\ ∀ j, j ∉ vs -> σ'[j]? = σ[j]?
theorem Beside.trans {vs ws us : List Nat} {σ σ1 σ2 : St} (a : Beside vs σ σ1) (b : Beside ws σ1 σ2) (h1 : ∀ j ∈ vs, j ∈ us) (h2 : ∀ j ∈ ws, j ∈ us) : Beside us σ σ2 :=
  ⟨b.1.trans a.1, fun j hj => (b.2 j fun h => hj (h2 j h)).trans (a.2 j fun h => hj (h1 j h))⟩
def tG (K : KX) (cls : Nat -> Addr) (own : Nat -> Bool) (tg : Tg) : TG := fun v σ H Q => ∃ G al m d sl', Rst K cls own G al m σ H /\ DV K (Zof G) al v d /\ tgSet tg d m.sl = some sl' /\
  ∀ σ', Rst K cls own G al { m with sl := sl' } σ' H -> Beside (tgSlots tg) σ σ' -> Q σ' H
def tGs (K : KX) (cls : Nat -> Addr) (own : Nat -> Bool) (tg : List Tg) : TGs := fun vs σ H Q => ∃ G al m ds sl', Rst K cls own G al m σ H /\ DVs K (Zof G) al vs ds /\ tgSets tg ds m.sl = some sl' /\
  ∀ σ', Rst K cls own G al { m with sl := sl' } σ' H -> Beside (tgSlotss tg) σ σ' -> Q σ' H
theorem pg_imp {X : Cx} {e : Expr} {t t' : TG} (h : PG X e t) (i : ∀ v σ H Q, t' v σ H Q -> t v σ H Q) : PG X e t' := ⟨fun pins s σ H v u Q I r q => h.run pins s σ H v u Q I r (i v σ H Q q)⟩
theorem pgs_imp {X : Cx} {e : List Expr} {t t' : TGs} (h : PGs X e t) (i : ∀ v σ H Q, t' v σ H Q -> t v σ H Q) : PGs X e t' := ⟨fun pins s σ H v u Q I r q => h.run pins s σ H v u Q I r (i v σ H Q q)⟩
section
variable (cls : Nat -> Addr) (own : Nat -> Bool) (X : Cx)
abbrev SG (e : Expr) (f : Tg) : Prop := PG X e (tG X.kx cls own f)
abbrev SGs (e : List Expr) (f : List Tg) : Prop := PGs X e (tGs X.kx cls own f)
end
section
variable {cls : Nat -> Addr} {own : Nat -> Bool} {X : Cx} {a b : Expr} {pos : Pos} {es : List Expr} {tg : Tg} {tgs : List Tg}
theorem sg_name {i : Nat} {x : Str} (ho : own i = false) (hN : X.N.Nodup) (hi : X.N[i]? = some x) (hx : Loc X.env.scope x) (hf : X.fn x = true \/ X.env.scope.names.lookup x = some .local := by first | exact .inl rfl | exact .inr rfl | assumption) : SG cls own X (.Name x pos) (.nm i) := by
  refine pg_imp (pg_name hN hi hx hf) fun v σ H Q q => ?_
  obtain ⟨G, al, m, d, sl', r, dv, e, k⟩ := q
  cases e
  exact k _ (r.set dv ho) ⟨by simp, fun j hj => by rw [List.getElem?_set_ne]; intro z; exact hj (by simp [tgSlots, z])⟩
theorem sgs_nil : SGs cls own X [] [] := by
  refine pgs_imp pgs_nil fun v σ H Q q => ?_
  obtain ⟨G, al, m, ds, sl', r, dv, e, k⟩ := q
  cases dv with
  | nil => cases e; exact ⟨rfl, k σ r ⟨rfl, fun _ _ => rfl⟩⟩
  | cons _ _ => cases e
theorem sgs_cons (h : SG cls own X a tg) (hr : SGs cls own X es tgs) (hs : (assignEach (a :: es) X.env).map (·.2) = assign a X.env :: (assignEach es X.env).map (·.2) := by rfl) : SGs cls own X (a :: es) (tg :: tgs) := by
  refine pgs_imp (pgs_cons h hr hs) fun v σ H Q q => ?_
  obtain ⟨G, al, m, ds, sl', r, dv, e, k⟩ := q
  cases dv with
  | nil => cases e
  | cons d1 d2 =>
    rename_i v1 vs d ds
    have e : (match tgSet tg d m.sl with | some sl' => tgSets tgs ds sl' | none => none) = some sl' := e
    split at e
    · next sl1 e1 =>
      refine ⟨v1, vs, rfl, G, al, m, d, sl1, r, d1, e1, fun σ1 r1 b1 => ?_⟩
      exact ⟨G, al, _, ds, sl', r1, d2, e, fun σ2 r2 b2 => k σ2 r2 (b1.trans b2 (fun j h => by simp [tgSlotss, h]) (fun j h => by simp [tgSlotss, h]))⟩
    · cases e
theorem tgSets_len : ∀ {ts : List Tg} {ds : List D} {sl sl' : List (Option D)}, tgSets ts ds sl = some sl' -> ds.length = ts.length
  | [], [], _, _, _ => rfl
  | [], _ :: _, _, _, e => by cases e
  | _ :: _, [], _, _, e => by cases e
  | t :: ts, d :: ds, sl, sl', e => by
    rw [tgSets] at e
    split at e
    · rw [List.length_cons, List.length_cons, tgSets_len e]
    · cases e
theorem sg_tup {n k0 : Nat} (hc : X.calm = true) (h : SGs cls own X es tgs) (hl : tgs.length = n) (hn : (assignEach es X.env).length = n := by rfl) (hst : (assignEach es X.env).findIdx? (·.1) = none := by rfl) : SG cls own X (.Tuple es k0 pos) (.tp tgs) := by
  refine pg_imp (pg_tup hc h hn hst) fun v σ H Q q => ?_
  obtain ⟨G, al, m, d, sl', r, dv, e, k⟩ := q
  cases d with
  | tup ds =>
    have e : tgSets tgs ds m.sl = some sl' := e
    cases dv with
    | tup h1 r1 => exact ⟨_, _, rfl, Same.tupS r.zh h1, by rw [r1.length, tgSets_len e, hl], G, al, m, ds, sl', r, r1, e, fun σ' r' b => k σ' r' b⟩
  | _ => cases e
def sAsg (tg : Tg) (f : Den D) : Den Fl := f.bind fun d => fun m => match tgSet tg d m.sl with
  | some sl => .ok .nx { m with sl := sl }
  | none => .bad
theorem ss_asg {fe : Den D} (he : SE cls own X a fe) (hg : SG cls own X b tg) (hs : swapsWithSole [b] a pos.line X.env = pure false := by rfl) (hw : swappedStores [b] a X.env = pure none := by rfl)
    (h1 : (assignEach [b] X.env).map (·.2) = [assign b X.env] := by rfl) : SS cls own X (.Assign [b] a pos) (sAsg tg fe) := by
  refine ps_imp (ps_asg he hg hs hw h1) fun E σ H q => ?_
  obtain ⟨G, al, m, fl, m', r, e, k⟩ := q
  obtain ⟨d, m1, e1, e⟩ := bind_ok e
  split at e
  · next sl e2 =>
    cases e
    refine ⟨G, al, m, d, m1, r, e1, fun G1 al1 v H1 ev1 r1 dv => ?_⟩
    exact ⟨G1, al1, m1, d, sl, r1, dv, e2, fun σ' r' _ => k G1 al1 σ' H1 ev1 r'⟩
  · cases e
end
structure WalkD (K : KX) (cls : Nat -> Addr) (own : Nat -> Bool) (J : It) (ds : List D) (Gs : Gh) (als : List Addr) : Prop where
  goes : ∀ G al m σ H i, EvZ Gs als G al -> Rst K cls own G al m σ H -> i < ds.length -> J.go i H
  stops : ∀ G al m σ H, EvZ Gs als G al -> Rst K cls own G al m σ H -> J.stop ds.length H
  yields : ∀ G al m σ H i x H' d, EvZ Gs als G al -> Rst K cls own G al m σ H -> ds[i]? = some d -> J.yld i H x H' -> ∃ G', Ev G al G' al /\ Rst K cls own G' al m σ H' /\ DV K (Zof G') al x d /\ (∀ a t o, G a = some (t, o) -> G' a = some (t, o))
def tI (K : KX) (cls : Nat -> Addr) (own : Nat -> Bool) (f : Den (List D)) : TI := fun σ H R => ∃ G al m ds m', Rst K cls own G al m σ H /\ f m = .ok ds m' /\
  ∀ G' al' H' J, Ev G al G' al' -> Rst K cls own G' al' m' σ H' -> WalkD K cls own J ds G' al' -> R J H'
theorem pi_imp {X : Cx} {tg e : Expr} {t t' : TI} (h : PI X tg e t) (i : ∀ σ H Q, t' σ H Q -> t σ H Q) : PI X tg e t' := ⟨fun pins s σ H Q I q => h.run pins s σ H Q I (i σ H Q q)⟩
abbrev SI (cls : Nat -> Addr) (own : Nat -> Bool) (X : Cx) (tg e : Expr) (f : Den (List D)) : Prop := PI X tg e (tI X.kx cls own f)
def iSeq (f : Den D) : Den (List D) := f.bind fun d => fun m => match d with
  | .lst ds => .ok ds m
  | .tup ds => .ok ds m
  | _ => .bad
section
variable {cls : Nat -> Addr} {own : Nat -> Bool} {X : Cx} {tg a b : Expr} {pos : Pos}
theorem pi_seq {l : Expr} {tl : TE} (hl : PE X l tl) : PI X tg l (fun σ H R => tl σ H fun x H1 => iList X.K (tC x) σ H1 R \/ iTup X.K (tC x) σ H1 R) := by
  refine ⟨fun pins s σ H R I h => ?_⟩
  refine thn (hl.run pins s σ H _ I h) fun v s1 ⟨x, H1, I1, rx, q⟩ => ?_
  rcases q with ⟨a, e, ⟨xs, hq⟩, q⟩ | ⟨a, e, ⟨xs, hq⟩, q⟩
  · subst e
    cases rx
    obtain ⟨its, rv, pl, hz⟩ := I1.list hq
    refine wpAny_pyIter_list pl.isList ⟨s1.heap.objs.size, [s1.heap.objs.size], _, _, H1, rfl, I1.kept (t' := s1.toks) (fun c o hc => Heap.get?_push_of_some _ hc), turn_list a _, ⟨_, Heap.get?_push_size _ rfl, rfl, rfl⟩, fun c hc => ?_, q⟩
    rw [List.mem_singleton.mp hc]
    exact I1.fpOk (Nat.le_refl _) (I1.hok.fresh (Nat.le_refl _))
  · subst e
    cases rx
    obtain ⟨its, rv, pl, hz⟩ := I1.tuple hq
    refine wpAny_pyIter_tuple (show s1.heap.IsTuple a its.toArray from pl) ⟨s1.heap.objs.size, [s1.heap.objs.size], _, _, H1, rfl, I1.kept (t' := s1.toks) (fun c o hc => Heap.get?_push_of_some _ hc), turn_tuple a _, ⟨_, Heap.get?_push_size _ rfl, rfl, rfl⟩, fun c hc => ?_, q⟩
    rw [List.mem_singleton.mp hc]
    exact I1.fpOk (Nat.le_refl _) (I1.hok.fresh (Nat.le_refl _))
theorem walk_lst {K : KX} {Gs : Gh} {als : List Addr} {p : Addr} {xs : List V} {ds : List D} (h : Zof Gs p = some (.lst xs)) (r : DVs K (Zof Gs) als xs ds) : WalkD K cls own (Itl K.K p) ds Gs als where
  goes := fun G al m σ H i ev rs hi => by
    obtain ⟨v, h1, _⟩ := r.get (List.getElem?_eq_getElem hi)
    exact ⟨xs, v, .inl (.inl (rs.zh _ _ (ev.same _ _ h))), h1⟩
  stops := fun G al m σ H ev rs => ⟨xs, .inl (.inl (rs.zh _ _ (ev.same _ _ h))), by rw [r.length]; exact Nat.le_refl _⟩
  yields := fun G al m σ H i x H' d ev rs hd y => by
    obtain ⟨e1, e2⟩ := y
    subst e1
    obtain ⟨v, h1, h2⟩ := (r.evz ev).get hd
    have := e2 xs (.inl (.inl (rs.zh _ _ (ev.same _ _ h))))
    rw [h1] at this; cases this
    exact ⟨G, .refl, rs, h2, fun _ _ _ q => q⟩
theorem walk_tupD {K : KX} {Gs : Gh} {als : List Addr} {p : Addr} {xs : List V} {ds : List D} (h : SqN K.K (Zof Gs) p xs) (r : DVs K (Zof Gs) als xs ds) : WalkD K cls own (Itt K.K p) ds Gs als where
  goes := fun G al m σ H i ev rs hi => by
    obtain ⟨v, h1, _⟩ := r.get (List.getElem?_eq_getElem hi)
    exact ⟨xs, v, Same.tupS rs.zh (Same.tupN ev.same h), h1⟩
  stops := fun G al m σ H ev rs => ⟨xs, Same.tupS rs.zh (Same.tupN ev.same h), by rw [r.length]; exact Nat.le_refl _⟩
  yields := fun G al m σ H i x H' d ev rs hd y => by
    obtain ⟨e1, e2⟩ := y
    subst e1
    obtain ⟨v, h1, h2⟩ := (r.evz ev).get hd
    have := e2 xs (Same.tupS rs.zh (Same.tupN ev.same h))
    rw [h1] at this; cases this
    exact ⟨G, .refl, rs, h2, fun _ _ _ q => q⟩
theorem si_seq {f : Den D} (h : SE cls own X a f) : SI cls own X tg a (iSeq f) := by
  refine pi_imp (pi_seq h) fun σ H R q => ?_
  obtain ⟨G, al, m, ds, m', r, e, k⟩ := q
  obtain ⟨d, m1, e1, e⟩ := bind_ok e
  refine ⟨G, al, m, d, m1, r, e1, fun G1 al1 v H1 ev1 r1 dv => ?_⟩
  split at e
  · cases e
    cases dv with
    | lst h1 h2 => exact .inl ⟨_, rfl, ⟨_, .inl (.inl (r1.zh _ _ h1))⟩, k G1 al1 H1 _ ev1 r1 (walk_lst h1 h2)⟩
  · cases e
    cases dv with
    | tup h1 h2 => exact .inr ⟨_, rfl, ⟨_, Same.tupS r1.zh h1⟩, k G1 al1 H1 _ ev1 r1 (walk_tupD h1 h2)⟩
  · cases e
end
end MI
namespace MI
open PySem PySem.Spec L2
def rangeD (lo : Int) : Nat -> List D
  | 0 => []
  | n + 1 => .int lo :: rangeD (lo + 1) n
theorem rangeD_len : ∀ (n : Nat) (lo : Int), (rangeD lo n).length = n
  | 0, _ => rfl
  | n + 1, lo => by rw [rangeD, List.length_cons, rangeD_len n]
theorem rangeD_get : ∀ (n : Nat) (lo : Int) (i : Nat), i < n -> (rangeD lo n)[i]? = some (.int (lo + i))
  | 0, _, _, h => by omega
  | n + 1, lo, 0, _ => by rw [rangeD]; simp
  | n + 1, lo, i + 1, h => by
    rw [rangeD, List.getElem?_cons_succ, rangeD_get n (lo + 1) i (by omega)]
    congr 2
    omega
theorem walk_rng {K : KX} {cls : Nat -> Addr} {own : Nat -> Bool} {Gs : Gh} {als : List Addr} {lo : Int} {n : Nat} : WalkD K cls own (Itr lo n) (rangeD lo n) Gs als where
  goes := fun G al m σ H i ev rs hi => by rw [rangeD_len] at hi; exact hi
  stops := fun G al m σ H ev rs => by rw [rangeD_len]; exact Nat.le_refl n
  yields := fun G al m σ H i x H' d ev rs hd y => by
    obtain ⟨e1, e2⟩ := y
    subst e1
    have hi : i < n := by
      have := (List.getElem?_eq_some_iff.mp hd).1
      rw [rangeD_len] at this; exact this
    rw [rangeD_get n lo i hi] at hd
    cases hd
    subst e2
    exact ⟨G, .refl, rs, .int _, fun _ _ _ q => q⟩
def smallI (i : Int) : Bool := decide (-(2 ^ 62) <= i) && decide (i < 2 ^ 62)
def iRange1 (f : Den (List Hd)) : Den (List D) := f.bind fun hs => fun m => match looksV hs with
  | some [.int j] => if smallI j then .ok (rangeD 0 j.toNat) m else .bad
  | _ => .bad
theorem smallI_le {i : Int} (h : smallI i = true) : -(2 ^ 62) <= i /\ i < 2 ^ 62 := by
  unfold smallI at h
  rw [Bool.and_eq_true] at h
  exact ⟨of_decide_eq_true h.1, of_decide_eq_true h.2⟩
section
variable {cls : Nat -> Addr} {own : Nat -> Bool} {X : Cx} {tg a b : Expr} {pos p : Pos} {fs : Den (List Hd)}
theorem si_range1 (hg : Gl X "range") (hm : X.mg "range" = none) (ha : SHs cls own X [a] fs) (hs : starEach [a] X.env = [(false, eval a X.env)] := by rfl) : SI cls own X tg (.Call (.Name "range" p) [a] [] pos) (iRange1 fs) := by
  refine pi_imp (pi_range1 hg hm ha hs) fun σ H R q => ?_
  obtain ⟨G, al, m, ds, m', r, e, k⟩ := q
  obtain ⟨hs, m1, e1, e⟩ := bind_ok e
  refine ⟨G, al, m, hs, m1, r, e1, fun G1 al1 v H1 ev1 r1 hv => ?_⟩
  split at e
  · next j l =>
    split at e
    · next hsm =>
      cases e
      have dv := looksV_dv hv l
      cases dv with
      | cons d1 d2 =>
        cases d2
        cases d1
        obtain ⟨s1, s2⟩ := smallI_le hsm
        exact ⟨j, rfl, s1, s2, k G1 al1 H1 (Itr 0 j.toNat) ev1 r1 walk_rng⟩
    · cases e
  · cases e
end
def loopD (tg : Tg) (body : Den Fl) : List D -> Den Fl
  | [] => .ret .nx
  | d :: ds => fun m => match tgSet tg d m.sl with
    | none => .bad
    | some sl => match body { m with sl := sl } with
      | .ok .nx m2 => loopD tg body ds m2
      | .ok .ct m2 => loopD tg body ds m2
      | .ok .bk m2 => .ok .nx m2
      | .ok (.rt d) m2 => .ok (.rt d) m2
      | .ok (.xc c fs) m2 => .ok (.xc c fs) m2
      | .bad => .bad
def sFor (src : Den (List D)) (tg : Tg) (body : Den Fl) : Den Fl := src.bind fun ds => loopD tg body ds
section
variable {cls : Nat -> Addr} {own : Nat -> Bool} {X : Cx} {te a b : Expr} {pos : Pos} {src : Den (List D)} {tg : Tg} {body : Den Fl} {sts : List Stmt}
theorem ss_for (hp : PassesOwn (model X.prog X.w) X.A X.env X.xe) (hc : X.calm = true) (hi : SI cls own X te a src) (hg : SG cls own X te tg) (hb : SSs cls own X sts body)
    (hs : ∀ x, foldedSetIterable a X.env x = pure x := by intro _; rfl) : SS cls own X (.For te a sts [] pos) (sFor src tg body) := by
  refine ps_imp (ps_for hp hc hi hg hb hs) fun E σ H q => ?_
  obtain ⟨G, al, m, fl, m', r, e, k⟩ := q
  obtain ⟨ds, m1, e1, e⟩ := bind_ok e
  refine ⟨G, al, m, ds, m1, r, e1, fun G1 al1 H1 J ev1 r1 wk => ?_⟩
  refine ⟨fun i n σ H => n = ds.length - i /\ i <= ds.length /\ ∃ G2 al2 m2, Ev G1 al1 G2 al2 /\ Rst X.kx cls own G2 al2 m2 σ H /\ loopD tg body (ds.drop i) m2 = .ok fl m', ⟨ds.length, rfl, Nat.zero_le _, G1, al1, m1, .refl, r1, e⟩, ?_⟩
  rintro i n σ2 H2 ⟨rfl, hi, G2, al2, m2, ev2, r2, e2⟩
  by_cases hlt : i < ds.length
  · refine .inr ⟨wk.goes G2 al2 m2 σ2 H2 i ev2.z r2 hlt, fun σ3 H3 => ∃ G3 al3 m3, Ev G1 al1 G3 al3 /\ Rst X.kx cls own G3 al3 m3 σ3 H3 /\ loopD tg body (ds.drop (i + 1)) m3 = .ok fl m', fun σ3 H3 q3 => ⟨ds.length - (i + 1), by omega, rfl, hlt, q3⟩, fun x H3 y => ?_⟩
    have hd : ds[i]? = some ds[i] := List.getElem?_eq_getElem hlt
    obtain ⟨G3, ev3, r3, dv, _⟩ := wk.yields G2 al2 m2 σ2 H2 i x H3 _ ev2.z r2 hd y
    rw [List.drop_eq_getElem_cons hlt, loopD] at e2
    dsimp only at e2
    split at e2
    · cases e2
    · next sl e3 =>
      refine ⟨G3, al2, m2, _, sl, r3, dv, e3, fun σ4 r4 _ => ?_⟩
      split at e2
      · next m5 e5 => exact ⟨G3, al2, _, .nx, m5, r4, e5, fun G6 al6 σ6 H6 ev6 r6 => ⟨G6, al6, m5, (ev2.trans ev3).trans ev6, r6, e2⟩⟩
      · next m5 e5 => exact ⟨G3, al2, _, .ct, m5, r4, e5, fun G6 al6 σ6 H6 ev6 r6 => ⟨G6, al6, m5, (ev2.trans ev3).trans ev6, r6, e2⟩⟩
      · next m5 e5 =>
        cases e2
        exact ⟨G3, al2, _, .bk, _, r4, e5, fun G6 al6 σ6 H6 ev6 r6 => k G6 al6 σ6 H6 (ev1.trans ((ev2.trans ev3).trans ev6)) r6⟩
      · next d5 m5 e5 =>
        cases e2
        exact ⟨G3, al2, _, .rt d5, _, r4, e5, fun G6 al6 σ6 H6 ev6 r6 => k G6 al6 σ6 H6 (ev1.trans ((ev2.trans ev3).trans ev6)) r6⟩
      · next c5 f5 m5 e5 =>
        cases e2
        exact ⟨G3, al2, _, .xc c5 f5, _, r4, e5, fun G6 al6 σ6 H6 ev6 r6 => k G6 al6 σ6 H6 (ev1.trans ((ev2.trans ev3).trans ev6)) r6⟩
      · cases e2
  · have en : i = ds.length := by omega
    subst en
    rw [List.drop_length] at e2
    cases e2
    exact .inl ⟨wk.stops G2 al2 _ σ2 H2 ev2.z r2, k G2 al2 σ2 H2 (ev1.trans ev2) r2⟩
theorem iteT' {p q : Prop} (h : p) : if true = true then p else q := h
theorem iteF' {p q : Prop} (h : q) : if false = true then p else q := h
def sWhile (c : Den Bool) (body : Den Fl) : Nat -> Den Fl
  | 0 => fun _ => .bad
  | n + 1 => fun m => match c m with
    | .ok true m1 => match body m1 with
      | .ok .nx m2 => sWhile c body n m2
      | .ok .ct m2 => sWhile c body n m2
      | .ok .bk m2 => .ok .nx m2
      | .ok (.rt d) m2 => .ok (.rt d) m2
      | .ok (.xc c fs) m2 => .ok (.xc c fs) m2
      | .bad => .bad
    | .ok false m1 => .ok .nx m1
    | .bad => .bad
theorem ss_while {fc : Den Bool} {n : Nat} (hp : PassesOwn (model X.prog X.w) X.A X.env X.xe) (hc : SB cls own X a fc) (hb : SSs cls own X sts body) : SS cls own X (.While a sts [] pos) (sWhile fc body n) := by
  refine ps_imp (ps_while hp hc hb) fun E σ H q => ?_
  obtain ⟨G, al, m, fl, m', r, e, k⟩ := q
  refine ⟨fun n σ H => ∃ G2 al2 m2, Ev G al G2 al2 /\ Rst X.kx cls own G2 al2 m2 σ H /\ sWhile fc body n m2 = .ok fl m', ⟨n, G, al, m, .refl, r, e⟩, ?_⟩
  rintro n σ2 H2 ⟨G2, al2, m2, ev2, r2, e2⟩
  cases n with
  | zero => cases e2
  | succ n =>
    rw [sWhile] at e2
    dsimp only at e2
    split at e2
    · next m3 e3 =>
      refine ⟨G2, al2, m2, true, m3, r2, e3, fun G3 al3 H3 ev3 r3 => ?_⟩
      refine iteT' ?_
      refine ⟨fun σ4 H4 => ∃ G4 al4 m4, Ev G al G4 al4 /\ Rst X.kx cls own G4 al4 m4 σ4 H4 /\ sWhile fc body n m4 = .ok fl m', fun σ4 H4 q4 => ⟨n, Nat.lt_succ_self n, q4⟩, ?_⟩
      split at e2
      · next m5 e5 => exact ⟨G3, al3, m3, .nx, m5, r3, e5, fun G6 al6 σ6 H6 ev6 r6 => ⟨G6, al6, m5, (ev2.trans ev3).trans ev6, r6, e2⟩⟩
      · next m5 e5 => exact ⟨G3, al3, m3, .ct, m5, r3, e5, fun G6 al6 σ6 H6 ev6 r6 => ⟨G6, al6, m5, (ev2.trans ev3).trans ev6, r6, e2⟩⟩
      · next m5 e5 =>
        cases e2
        exact ⟨G3, al3, m3, .bk, _, r3, e5, fun G6 al6 σ6 H6 ev6 r6 => k G6 al6 σ6 H6 ((ev2.trans ev3).trans ev6) r6⟩
      · next d5 m5 e5 =>
        cases e2
        exact ⟨G3, al3, m3, .rt d5, _, r3, e5, fun G6 al6 σ6 H6 ev6 r6 => k G6 al6 σ6 H6 ((ev2.trans ev3).trans ev6) r6⟩
      · next c5 f5 m5 e5 =>
        cases e2
        exact ⟨G3, al3, m3, .xc c5 f5, _, r3, e5, fun G6 al6 σ6 H6 ev6 r6 => k G6 al6 σ6 H6 ((ev2.trans ev3).trans ev6) r6⟩
      · cases e2
    · next m3 e3 =>
      cases e2
      refine ⟨G2, al2, m2, false, _, r2, e3, fun G3 al3 H3 ev3 r3 => ?_⟩
      refine iteF' ?_
      exact k G3 al3 σ2 H3 (ev2.trans ev3) r3
    · cases e2
end
end MI
namespace MI
open PySem PySem.Spec L2
def wipeM (sl : List (Option D)) : List Nat -> List (Option D)
  | [] => sl
  | v :: vs => (wipeM sl vs).set v none
def backM (old cur : List (Option D)) : List Nat -> List (Option D)
  | [] => cur
  | v :: vs => (backM old cur vs).set v (old.getD v none)
theorem wipeM_len (sl : List (Option D)) : ∀ vs, (wipeM sl vs).length = sl.length
  | [] => rfl
  | v :: vs => by rw [wipeM, List.length_set, wipeM_len sl vs]
theorem wipeM_get {sl : List (Option D)} {i : Nat} {d : D} : ∀ {vs : List Nat}, (wipeM sl vs)[i]? = some (some d) -> sl[i]? = some (some d) /\ i ∉ vs
  | [], h => ⟨h, by simp⟩
  | v :: vs, h => by
    rw [wipeM] at h
    rcases getSet h with ⟨_, _, e⟩ | ⟨ne, h⟩
    · cases e
    · obtain ⟨h1, h2⟩ := wipeM_get h
      exact ⟨h1, by simp [ne, h2]⟩
theorem wipe_get (σ : St) {i : Nat} : ∀ {vs : List Nat}, i ∉ vs -> (wipe σ vs)[i]? = σ[i]?
  | [], _ => rfl
  | v :: vs, h => by
    rw [wipe, List.getElem?_set_ne (by intro e; exact h (by simp [e]))]
    exact wipe_get σ (by intro e; exact h (by simp [e]))
theorem backM_len (old cur : List (Option D)) : ∀ vs, (backM old cur vs).length = cur.length
  | [] => rfl
  | v :: vs => by rw [backM, List.length_set, backM_len old cur vs]
theorem backM_get {old cur : List (Option D)} {i : Nat} {d : D} : ∀ {vs : List Nat}, (backM old cur vs)[i]? = some (some d) -> (i ∈ vs /\ old[i]? = some (some d)) \/ (i ∉ vs /\ cur[i]? = some (some d))
  | [], h => .inr ⟨by simp, h⟩
  | v :: vs, h => by
    rw [backM] at h
    rcases getSet h with ⟨rfl, _, e⟩ | ⟨ne, h⟩
    · refine .inl ⟨by simp, ?_⟩
      rw [List.getD_eq_getElem?_getD] at e
      cases q : old[i]? with
      | none => rw [q] at e; cases e
      | some x => rw [q] at e; cases e; rfl
    · rcases backM_get h with ⟨h1, h2⟩ | ⟨h1, h2⟩
      · exact .inl ⟨by simp [h1], h2⟩
      · exact .inr ⟨by simp [ne, h1], h2⟩
theorem wipe_eq {σ σ2 : St} : ∀ {vs ws : List Nat}, (∀ j ∈ ws, j ∈ vs) -> Beside ws (wipe σ vs) σ2 -> wipe σ2 vs = wipe σ vs := by
  intro vs ws hsub hb
  have hw : ∀ (vs : List Nat) (σ : St) (i : Nat), i ∈ vs -> (wipe σ vs)[i]? = if i < σ.length then some none else none := by
    intro vs
    induction vs with
    | nil => intro σ i h; cases h
    | cons v vs ih =>
      intro σ i h
      rw [wipe]
      by_cases e : v = i
      · subst e
        by_cases hl : v < σ.length
        · rw [List.getElem?_set_self (by rw [wipe_length]; exact hl), if_pos hl]
        · rw [List.getElem?_eq_none (by rw [List.length_set, wipe_length]; omega), if_neg hl]
      · rw [List.getElem?_set_ne e]
        exact ih σ i (by rcases List.mem_cons.mp h with z | z; exact absurd z.symm e; exact z)
  apply List.ext_getElem?
  intro i
  by_cases hi : i ∈ vs
  · rw [hw vs σ2 i hi, hw vs σ i hi, hb.1, wipe_length]
  · rw [wipe_get σ2 hi, hb.2 i (fun h => hi (hsub i h))]
section
variable {K : KX} {cls : Nat -> Addr} {own : Nat -> Bool} {G : Gh} {al : List Addr} {m : MS} {σ : St} {H : Hp}
theorem Rst.wipe {vs : List Nat} (r : Rst K cls own G al m σ H) : Rst K cls own G al { m with sl := wipeM m.sl vs } (L2.wipe σ vs) H := by
  refine ⟨r.hst, by rw [wipe_length, wipeM_len]; exact r.len, fun i d e ho => ?_, fun i d e ho => ?_⟩
  · obtain ⟨e1, n⟩ := wipeM_get e
    rw [wipe_get σ n]
    exact r.val i d e1 ho
  · obtain ⟨e1, n⟩ := wipeM_get e
    rw [wipe_get σ n]
    exact r.own i d e1 ho
theorem Rst.back {vs : List Nat} {G' : Gh} {al' : List Addr} {m' : MS} {H' : Hp} (r : Rst K cls own G al m σ H) (ev : Ev G al G' al') (r' : Rst K cls own G' al' { m' with sl := wipeM m'.sl vs } (L2.wipe σ vs) H') (hv : ∀ i ∈ vs, own i = false) :
    Rst K cls own G' al' { m' with sl := backM m.sl m'.sl vs } σ H' := by
  have hl : m'.sl.length = σ.length := by
    have := r'.len
    rw [wipe_length, wipeM_len] at this
    exact this.symm
  have keep : ∀ {i d}, i ∉ vs -> m'.sl[i]? = some (some d) -> (wipeM m'.sl vs)[i]? = some (some d) := by
    intro i d hi h
    have : ∀ ws : List Nat, i ∉ ws -> (wipeM m'.sl ws)[i]? = m'.sl[i]? := by
      intro ws
      induction ws with
      | nil => intro _; rfl
      | cons w ws ih =>
        intro hw
        rw [wipeM, List.getElem?_set_ne (by intro e; exact hw (by simp [e])), ih (by intro e; exact hw (by simp [e]))]
    rw [this vs hi]; exact h
  refine ⟨r'.hst, by rw [backM_len]; exact hl.symm, fun i d e ho => ?_, fun i d e ho => ?_⟩
  · rcases backM_get e with ⟨h1, h2⟩ | ⟨h1, h2⟩
    · obtain ⟨v, q1, q2⟩ := r.val i d h2 ho
      exact ⟨v, q1, q2.ev ev⟩
    · obtain ⟨v, q1, q2⟩ := r'.val i d (keep h1 h2) ho
      rw [wipe_get σ h1] at q1
      exact ⟨v, q1, q2⟩
  · rcases backM_get e with ⟨h1, h2⟩ | ⟨h1, h2⟩
    · rw [hv i h1] at ho; cases ho
    · obtain ⟨a, o, q1, q2, q3⟩ := r'.own i d (keep h1 h2) ho
      rw [wipe_get σ h1] at q1
      exact ⟨a, o, q1, q2, q3⟩
theorem Rst.reframe {D0 : Addr} {o o' : HO} (r : Rst K cls own G al m σ H) (h : G D0 = some (.frm, o)) : Ev G al G al /\ Rst K cls own (putG G D0 .frm o') al m σ (upd H D0 o') /\ Zof (putG G D0 .frm o') = Zof G := by
  have hz : Zof (putG G D0 .frm o') = Zof G := by
    funext b
    unfold Zof
    by_cases e : b = D0
    · subst e; rw [putG_same, h]
    · rw [putG_ne e]
  have ne : ∀ {b t u}, G b = some (t, u) -> t ≠ .frm -> b ≠ D0 := fun e q z => by subst z; rw [h] at e; cases e; exact q rfl
  refine ⟨.refl, ⟨⟨fun b t u e => ?_, r.hst.len, fun n ob e hg => ?_⟩, r.len, fun i d e ho => ?_, fun i d e ho => ?_⟩, hz⟩
  · by_cases hb : b = D0
    · subst hb; rw [putG_same] at e; cases e; exact upd_same
    · rw [putG_ne hb] at e; rw [upd_ne hb]; exact r.hst.gh b t u e
  · obtain ⟨b, h1, h2⟩ := r.hst.sto n ob e hg
    refine ⟨b, h1, ?_⟩
    obtain ⟨o1, e1, r1⟩ := h2
    exact ⟨o1, by rw [putG_ne (ne e1 (by intro z; cases z))]; exact e1, by rw [hz]; exact r1⟩
  · rw [hz]; exact r.val i d e ho
  · obtain ⟨a, ob, h1, h2, h3⟩ := r.own i d e ho
    rw [hz]
    exact ⟨a, ob, h1, by rw [putG_ne (ne h2 (by intro z; cases z))]; exact h2, h3⟩
def delG (G : Gh) (a : Addr) : Gh := fun b => if b = a then none else G b
theorem delG_same {a : Addr} : delG G a a = none := by unfold delG; rw [if_pos rfl]
theorem delG_ne {a b : Addr} (h : b ≠ a) : delG G a b = G b := by unfold delG; rw [if_neg h]
theorem Rst.unframe {D0 : Addr} {o : HO} (r : Rst K cls own G al m σ H) (h : G D0 = some (.frm, o)) : Rst K cls own (delG G D0) al m σ H /\ Zof (delG G D0) = Zof G := by
  have hz : Zof (delG G D0) = Zof G := by
    funext b
    unfold Zof
    by_cases e : b = D0
    · subst e; rw [delG_same, h]
    · rw [delG_ne e]
  have ne : ∀ {b t u}, G b = some (t, u) -> t ≠ .frm -> b ≠ D0 := fun e q z => by subst z; rw [h] at e; cases e; exact q rfl
  refine ⟨⟨⟨fun b t u e => ?_, r.hst.len, fun n ob e hg => ?_⟩, r.len, fun i d e ho => ?_, fun i d e ho => ?_⟩, hz⟩
  · by_cases hb : b = D0
    · subst hb; rw [delG_same] at e; cases e
    · rw [delG_ne hb] at e; exact r.hst.gh b t u e
  · obtain ⟨b, h1, h2⟩ := r.hst.sto n ob e hg
    refine ⟨b, h1, ?_⟩
    obtain ⟨o1, e1, r1⟩ := h2
    exact ⟨o1, by rw [delG_ne (ne e1 (by intro z; cases z))]; exact e1, by rw [hz]; exact r1⟩
  · rw [hz]; exact r.val i d e ho
  · obtain ⟨a, ob, h1, h2, h3⟩ := r.own i d e ho
    rw [hz]
    exact ⟨a, ob, h1, by rw [delG_ne (ne h2 (by intro z; cases z))]; exact h2, h3⟩
end
def lcLoop (vs : List Nat) (tg : Tg) (tt : Den Bool) (te : Den D) : List D -> Den (List D)
  | [] => .ret []
  | d :: ds => fun m => match tgSet tg d (wipeM m.sl vs) with
    | none => .bad
    | some sl => match tt { m with sl := sl } with
      | .ok true m2 => match te m2 with
        | .ok y m3 => match lcLoop vs tg tt te ds m3 with
          | .ok ys m4 => .ok (y :: ys) m4
          | .bad => .bad
        | .bad => .bad
      | .ok false m2 => lcLoop vs tg tt te ds m2
      | .bad => .bad
def eLc (src : Den (List D)) (vs : List Nat) (tg : Tg) (tt : Den Bool) (te : Den D) : Den D := src.bind fun ds => fun m => match lcLoop vs tg tt te ds m with
  | .ok ys m' => if fitL ys.length then .ok (.lst ys) { m' with sl := backM m.sl m'.sl vs } else .bad
  | .bad => .bad
abbrev SBs (cls : Nat -> Addr) (own : Nat -> Bool) (X : Cx) (es : List Expr) (f : Den Bool) : Prop := PTs X es (tDb X.kx cls own f)
theorem pts_imp {X : Cx} {e : List Expr} {t t' : TT} (h : PTs X e t) (i : ∀ σ H Q, t' σ H Q -> t σ H Q) : PTs X e t' := ⟨fun pins s σ H Q I q => h.run pins s σ H Q I (i σ H Q q)⟩
theorem sbs_nil {cls : Nat -> Addr} {own : Nat -> Bool} {X : Cx} : SBs cls own X [] (.ret true) := pts_imp pts_nil fun σ H Q ⟨G, al, m, d, m', r, e, k⟩ => by cases e; exact k G al H .refl r
section
variable {cls : Nat -> Addr} {own : Nat -> Bool} {X : Cx} {K : KX} {src : Den (List D)} {tg : Tg} {ft : Den Bool} {fe : Den D} {vs : List Nat}
theorem tLc_of (hv : ∀ i ∈ vs, own i = false) (hsub : ∀ j ∈ tgSlots tg, j ∈ vs) {σ : St} {H : Hp} {Q : VK} (q : tF K cls own (eLc src vs tg ft fe) σ H Q) :
    tLc (tI K cls own src) (tG K cls own tg) (tDb K cls own ft) (tD K cls own fe) vs σ H Q := by
  obtain ⟨G, al, m, d, m', r, e, k⟩ := q
  obtain ⟨ds, m1, e1, e⟩ := bind_ok e
  split at e
  case h_2 => cases e
  next ys m9 e9 =>
  split at e
  case isFalse => cases e
  next hfit =>
  cases e
  refine ⟨G, al, m, ds, m1, r, e1, fun G1 al1 H1 J ev1 r1 wk D0 hD => ?_⟩
  have hn : G1 D0 = none := r1.hst.nog hD
  have nG1 : ∀ {b x}, G1 b = some x -> b ≠ D0 := fun e z => by subst z; rw [hn] at e; cases e
  let W : Nat -> Nat -> Hp -> Prop := fun i n H => n = ds.length - i /\ i <= ds.length /\ ∃ G2 al2 m2 acc accD zs, Ev G1 al1 (delG G2 D0) al2 /\ Rst K cls own G2 al2 { m2 with sl := wipeM m2.sl vs } (wipe σ vs) H /\ G2 D0 = some (.frm, .lst acc) /\
    DVs K (Zof G2) al2 acc accD /\ lcLoop vs tg ft fe (ds.drop i) m2 = .ok zs m9 /\ accD ++ zs = ys
  refine ⟨W, ⟨ds.length, rfl, Nat.zero_le _, putG G1 D0 .frm (.lst []), al1, m1, [], [], ys, ?_, ?_, putG_same, .nil, e9, rfl⟩, ?_⟩
  · have : delG (putG G1 D0 .frm (.lst [])) D0 = G1 := by
      funext b
      by_cases e : b = D0
      · subst e; rw [delG_same, hn]
      · rw [delG_ne e, putG_ne e]
    rw [this]; exact .refl
  · exact ((r1.wipe (vs := vs)).fresh hD).tag hn upd_same
  rintro i n H2 ⟨rfl, hi, G2, al2, m2, acc, accD, zs, ev2, r2, g2, c2, e2, ez⟩
  have evG : Ev G1 al1 G2 al2 := ⟨fun a o e => by have := ev2.frz a o e; rw [delG_ne (nG1 e)] at this; exact this, fun a o e => by have := ev2.frm a o e; rw [delG_ne (nG1 e)] at this; exact this, ev2.al⟩
  by_cases hlt : i < ds.length
  · refine .inr ⟨wk.goes G2 al2 _ _ H2 i evG.z r2 hlt, W (i + 1) (ds.length - (i + 1)), fun H3 q3 => ⟨_, by omega, q3⟩, fun x H3 y => ?_⟩
    have hd : ds[i]? = some ds[i] := List.getElem?_eq_getElem hlt
    obtain ⟨G3, ev3, r3, dv, keep3⟩ := wk.yields G2 al2 _ _ H2 i x H3 _ evG.z r2 hd y
    have g3 : G3 D0 = some (.frm, .lst acc) := ev3.frm _ _ g2
    rw [List.drop_eq_getElem_cons hlt, lcLoop] at e2
    dsimp only at e2
    split at e2
    · cases e2
    · next sl e3 =>
      refine ⟨G3, al2, _, _, sl, r3, dv, e3, fun σ4 r4 b4 => ⟨wipe_eq hsub b4, ?_⟩⟩
      have weq : wipe σ4 vs = wipe σ vs := by
        have := wipe_eq (σ := σ) hsub b4
        exact this
      split at e2
      · next m5 e5 =>
        refine ⟨G3, al2, _, true, m5, r4, e5, fun G5 al5 H5 ev5 r5 => iteT' ?_⟩
        split at e2
        · next y5 m6 e6 =>
          split at e2
          · next ys6 m7 e7 =>
            cases e2
            refine ⟨G5, al5, m5, y5, m6, r5, e6, fun G6 al6 v6 H6 ev6 r6 dv6 => ?_⟩
            have g6 : G6 D0 = some (.frm, .lst acc) := ev6.frm _ _ (ev5.frm _ _ g3)
            have evs : Ev G2 al2 G6 al6 := ev3.trans (ev5.trans ev6)
            have c6 : DVs K (Zof G6) al6 acc accD := c2.ev evs
            have hlen : acc.length < sizeLine := by
              have h1 := c2.length
              have h2 : ys.length <= sizeLine := fitL_le hfit
              have h3 := congrArg List.length ez
              simp only [List.length_append, List.length_cons] at h3
              omega
            obtain ⟨_, r7, hz7⟩ := r6.reframe (o' := .lst (acc ++ [v6])) g6
            refine ⟨acc, r6.hst.gh _ _ _ g6, hlen, rfl, hlt, putG G6 D0 .frm (.lst (acc ++ [v6])), al6, m6, acc ++ [v6], accD ++ [y5], ys6, ?_, ?_, putG_same, ?_, e7, by rw [<- ez]; simp⟩
            · have : delG (putG G6 D0 .frm (.lst (acc ++ [v6]))) D0 = delG G6 D0 := by
                funext b
                by_cases e : b = D0
                · subst e; rw [delG_same, delG_same]
                · rw [delG_ne e, putG_ne e, delG_ne e]
              rw [this]
              refine ⟨fun a o e => ?_, fun a o e => ?_, evG.al.trans evs.al⟩
              · rw [delG_ne (nG1 e)]; exact evs.frz _ _ (evG.frz _ _ e)
              · rw [delG_ne (nG1 e)]; exact evs.frm _ _ (evG.frm _ _ e)
            · have := r7.wipe (vs := vs)
              rw [weq] at this
              exact this
            · rw [hz7]; exact c6.append (.cons dv6 .nil)
          · cases e2
        · cases e2
      · next m5 e5 =>
        refine ⟨G3, al2, _, false, m5, r4, e5, fun G5 al5 H5 ev5 r5 => iteF' ?_⟩
        have evs : Ev G2 al2 G5 al5 := ev3.trans ev5
        refine ⟨rfl, hlt, G5, al5, m5, acc, accD, zs, ?_, ?_, ev5.frm _ _ g3, c2.ev evs, e2, ez⟩
        · refine ⟨fun a o e => ?_, fun a o e => ?_, evG.al.trans evs.al⟩
          · rw [delG_ne (nG1 e)]; exact evs.frz _ _ (evG.frz _ _ e)
          · rw [delG_ne (nG1 e)]; exact evs.frm _ _ (evG.frm _ _ e)
        · have := r5.wipe (vs := vs)
          rw [weq] at this
          exact this
      · cases e2
  · have en : i = ds.length := by omega
    subst en
    rw [List.drop_length] at e2
    cases e2
    have ez : accD = ys := by rw [<- ez]; simp
    subst ez
    refine .inl ⟨wk.stops G2 al2 _ _ H2 evG.z r2, ?_⟩
    obtain ⟨r3, hz3⟩ := r2.unframe g2
    have rb := r1.back ev2 r3 hv
    exact k (delG G2 D0) al2 D0 (.lst acc) H2 (ev1.trans ev2) rb (r2.hst.gh _ _ _ g2) delG_same (by rw [hz3]; exact c2)
end
section
variable {cls : Nat -> Addr} {own : Nat -> Bool} {X : Cx} {elt te iter : Expr} {ifs : List Expr} {scope : Scope} {ow : List (Str × Nat)} {pos : Pos} {src : Den (List D)} {tg : Tg} {ft : Den Bool} {fe : Den D}
theorem sf_lc (hc : X.calm = true) (hN : X.N.Nodup) (hi : SI cls own X te iter src) (ok : BlkOk X.N X.env.scope scope ow)
    (hg : ∀ (s : Shared) (H : Hp) (C : Addr) (cl : List (Str × Addr)) (fp : List Addr), SG cls own (X.blk s H scope (compEnvC scope cl C X.env) fp) te tg)
    (ht : ∀ (s : Shared) (H : Hp) (C : Addr) (cl : List (Str × Addr)) (fp : List Addr), SBs cls own (X.blk s H scope (compEnvC scope cl C X.env) fp) ifs ft)
    (he : ∀ (s : Shared) (H : Hp) (C : Addr) (cl : List (Str × Addr)) (fp : List Addr), SE cls own (X.blk s H scope (compEnvC scope cl C X.env) fp) elt fe)
    (hv : ∀ i ∈ ow.map (·.2), own i = false) (hsub : ∀ j ∈ tgSlots tg, j ∈ ow.map (·.2)) (hs : ∀ x, foldedSetIterable iter X.env x = pure x := by intro _; rfl) :
    SF cls own X (.ListComp elt [⟨te, iter, ifs, 0⟩] scope pos) (eLc src (ow.map (·.2)) tg ft fe) :=
  pe_imp (pe_lc (own := ow) hc hN hi ok hg ht he hs) fun _ _ _ q => tLc_of hv hsub q
end
end MI
namespace MI
open PySem PySem.Spec L2
section
variable {cls : Nat -> Addr} {own : Nat -> Bool} {X : Cx} {elt te iter : Expr} {ifs : List Expr} {scope : Scope} {ow : List (Str × Nat)} {pos py spos : Pos} {src : Den (List D)} {tg : Tg} {ft : Den Bool} {fe : Den D} {i : Nat} {y : Str}
theorem ss_setLc (ho : own i = false) (hc : X.calm = true) (hN : X.N.Nodup) (hy : X.N[i]? = some y) (hyl : X.env.scope.names.lookup y = some .local)
    (hsw : swapsWith (.ListComp elt [⟨te, iter, ifs, 0⟩] scope pos) (some (.Name y py)) spos.line X.env = pure true) (hi : SI cls own X te iter src) (ok : BlkOk X.N X.env.scope scope ow)
    (hg : ∀ (s : Shared) (H : Hp) (C : Addr) (cl : List (Str × Addr)) (fp : List Addr), SG cls own (X.blk s H scope (compEnvC scope cl C X.env) fp) te tg)
    (ht : ∀ (s : Shared) (H : Hp) (C : Addr) (cl : List (Str × Addr)) (fp : List Addr), SBs cls own (X.blk s H scope (compEnvC scope cl C X.env) fp) ifs ft)
    (he : ∀ (s : Shared) (H : Hp) (C : Addr) (cl : List (Str × Addr)) (fp : List Addr), SE cls own (X.blk s H scope (compEnvC scope cl C X.env) fp) elt fe)
    (hv : ∀ i ∈ ow.map (·.2), own i = false) (hsub : ∀ j ∈ tgSlots tg, j ∈ ow.map (·.2)) (hs : ∀ x, foldedSetIterable iter X.env x = pure x := by intro _; rfl) :
    SS cls own X (.Assign [.Name y py] (.ListComp elt [⟨te, iter, ifs, 0⟩] scope pos) spos) (sSet i (eLc src (ow.map (·.2)) tg ft fe)) := by
  refine ps_imp (ps_setLc (own := ow) (g := tG X.kx cls own tg) (tt := tDb X.kx cls own ft) (te := tD X.kx cls own fe) hc hN hy hyl hsw hi ok hg ht he hs) fun E σ H q => ?_
  obtain ⟨G, al, m, fl, m', r, e, k⟩ := q
  obtain ⟨d, m1, e1, e⟩ := bind_ok e
  cases e
  refine tLc_of hv hsub ⟨G, al, m, d, m1, r, e1, fun G1 al1 p o H1 ev1 r1 hp hn c => ?_⟩
  have ev2 : Ev G1 al1 (putG G1 p .frz o) al1 := ev_put hn
  exact k _ al1 _ H1 (ev1.trans ev2) ((r1.tag hn hp).set (CO.frz (zof_of putG_same) (c.mono ev2.same ev2.al)) ho)
end
def runFn (n : Nat) (body : Den Fl) : Fn := fun ds st => match body ⟨ds.map some ++ List.replicate (n - ds.length) none, st⟩ with
  | .ok (.rt d) m => some (d, m.st)
  | .ok .nx m => some (.non, m.st)
  | _ => none
def SpD (K : KX) (cls : Nat -> Addr) (np : Nat) (fn : Fn) : Sp := fun vs H Q _ => vs.length = np /\ ∃ G al ds st d st', Hst K cls G al st H /\ DVs K (Zof G) al vs ds /\ fn ds st = some (d, st') /\
  ∀ G' al' v H', Ev G al G' al' -> Hst K cls G' al' st' H' -> DV K (Zof G') al' v d -> Q v H'
theorem start_get {ds : List D} {n i : Nat} {d : D} (h : (ds.map some ++ List.replicate n (none : Option D))[i]? = some (some d)) : ds[i]? = some d := by
  by_cases hi : i < ds.length
  · rw [List.getElem?_append_left (by simpa using hi), List.getElem?_map] at h
    cases q : ds[i]? with
    | none => rw [q] at h; cases h
    | some x => rw [q] at h; cases h; rfl
  · rw [List.getElem?_append_right (by simpa using hi)] at h
    obtain ⟨_, e⟩ := List.getElem?_eq_some_iff.mp h
    rw [List.getElem_replicate] at e
    cases e
def callG (G : Gh) : Gh := fun a => match G a with
  | some (.slot _, o) => some (.frm, o)
  | x => x
def aftG (G G' : Gh) : Gh := fun a => match G a with
  | some (.slot i, o) => some (.slot i, o)
  | _ => G' a
theorem callG_eq {G : Gh} {a : Addr} {t : Tag} {o : HO} (h : G a = some (t, o)) (n : ∀ i, t ≠ .slot i) : callG G a = some (t, o) := by
  unfold callG
  rw [h]
  cases t with
  | slot i => exact absurd rfl (n i)
  | _ => rfl
theorem callG_slot {G : Gh} {a : Addr} {i : Nat} {o : HO} (h : G a = some (.slot i, o)) : callG G a = some (.frm, o) := by unfold callG; rw [h]
theorem zof_callG (G : Gh) : Zof (callG G) = Zof G := by
  funext a
  unfold Zof callG
  cases e : G a with
  | none => rfl
  | some x =>
    obtain ⟨t, o⟩ := x
    cases t <;> rfl
section
variable {K : KX} {cls : Nat -> Addr} {own : Nat -> Bool} {G G' : Gh} {al al' : List Addr} {m : MS} {σ : St} {H H' : Hp} {st : Sto}
theorem Hst.call (r : Hst K cls G al st H) : Hst K cls (callG G) al st H := by
  refine ⟨fun a t o e => ?_, r.len, fun n ob e hg => ?_⟩
  · unfold callG at e
    split at e
    · next i o' e' => cases e; exact r.gh a _ _ e'
    · next => exact r.gh a t o e
  · obtain ⟨a, h1, h2⟩ := r.sto n ob e hg
    refine ⟨a, h1, ?_⟩
    obtain ⟨o1, e1, r1⟩ := h2
    exact ⟨o1, callG_eq e1 (by intro i z; cases z), by rw [zof_callG]; exact r1⟩
theorem zof_aft (ev : Ev (callG G) al G' al') : Zof (aftG G G') = Zof G' := by
  funext a
  unfold Zof aftG
  cases e : G a with
  | none => rfl
  | some x =>
    obtain ⟨t, o⟩ := x
    cases t with
    | slot i =>
      have := ev.frm a o (callG_slot e)
      rw [this]
    | _ => rfl
theorem ev_aft (ev : Ev (callG G) al G' al') : Ev G al (aftG G G') al' := by
  refine ⟨fun a o e => ?_, fun a o e => ?_, ev.al⟩
  · have := ev.frz a o (callG_eq e (by intro i z; cases z))
    unfold aftG; rw [e]; exact this
  · have := ev.frm a o (callG_eq e (by intro i z; cases z))
    unfold aftG; rw [e]; exact this
theorem Rst.after (r : Rst K cls own G al m σ H) (ev : Ev (callG G) al G' al') (h : Hst K cls G' al' st H') : Rst K cls own (aftG G G') al' { m with st := st } σ H' := by
  have e0 := ev_aft ev
  refine ⟨⟨fun a t o e => ?_, h.len, fun n ob e hg => ?_⟩, r.len, fun i d e ho => ?_, fun i d e ho => ?_⟩
  · unfold aftG at e
    split at e
    · next e' =>
      cases e
      exact h.gh a _ _ (ev.frm a o (callG_slot e'))
    · exact h.gh a t o e
  · obtain ⟨a, h1, h2⟩ := h.sto n ob e hg
    refine ⟨a, h1, ?_⟩
    obtain ⟨o1, e1, r1⟩ := h2
    refine ⟨o1, ?_, by rw [zof_aft ev]; exact r1⟩
    unfold aftG
    split
    · next i o' e' =>
      have := ev.frm a o' (callG_slot e')
      rw [e1] at this; cases this
    · exact e1
  · obtain ⟨v, h1, h2⟩ := r.val i d e ho
    exact ⟨v, h1, h2.ev e0⟩
  · obtain ⟨a, o, h1, h2, h3⟩ := r.own i d e ho
    exact ⟨a, o, h1, by unfold aftG; rw [h2], h3.mono e0.same e0.al⟩
end
section
variable {cls : Nat -> Addr} {own : Nat -> Bool} {X : Cx} {k : Nat} {f : Addr} {fd : FuncData} {ps : List Str} {fn : Fn} {dvs : List V} {dds : List D} {ds : List Value} {x : Str} {p pos : Pos} {e : Expr} {es : List Expr} {fs : Den (List Hd)}
theorem call_core {σ : St} {H : Hp} {Q : VK} {t : TA} {np : Nat} {E : XK} {G : Gh} {al : List Addr} {m : MS} {d : D} {as : List D} {st' : Sto} {vs : List V} (hnp : vs.length = np) (r : Rst X.kx cls own G al m σ H) (dv : DVs X.kx (Zof G) al vs as) (e2 : fn as m.st = some (d, st'))
    (k : ∀ G' al' v H', Ev G al G' al' -> Rst X.kx cls own G' al' { m with st := st' } σ H' -> DV X.kx (Zof G') al' v d -> Q v H') : SpD X.kx cls np fn vs H Q E :=
  ⟨hnp, callG G, al, as, m.st, d, st', r.hst.call, by rw [zof_callG]; exact dv, e2, fun G' al' v H' ev hst dvv => k (aftG G G') al' v H' (ev_aft ev) (r.after ev hst) (by rw [zof_aft ev]; exact dvv)⟩
end
end MI
namespace MI
open PySem PySem.Spec L2
theorem toNKs_cons {d : D} {ds : List D} {ps : List NestedKey} (e : toNKs (d :: ds) = some ps) : ∃ p ps', toNK d = some p /\ toNKs ds = some ps' /\ ps = p :: ps' := by
  rw [toNKs] at e
  split at e
  · next p ps' h1 h2 => cases e; exact ⟨p, ps', h1, h2, rfl⟩
  · cases e
section
variable {K : KX} {H Z : Hp} {al : List Addr}
mutual
theorem DV.kat (s : Same Z H) : ∀ {v : V} {d : D} {k : NestedKey}, DV K Z al v d -> toNK d = some k -> KAt K.K H v k
  | _, _, _, .non, e => by cases e; exact .non
  | _, _, _, .int i, e => by cases e; exact .int i
  | _, _, _, .str i, e => by cases e; exact .str i
  | _, _, _, .tup (ds := ds) h r, e => by
    cases q : toNKs ds with
    | none => rw [toNK, q] at e; cases e
    | some ps => rw [toNK, q] at e; cases e; exact .tup (Same.tupS s h) (DVs.kat s r q)
  | _, _, _, .bl _, e => by cases e
  | _, _, _, .lst _ _, e => by cases e
  | _, _, _, .scr _, e => by cases e
  | _, _, _, .dicK _ _ _, e => by cases e
  | _, _, _, .ditN _ _ _ _ _ _, e => by cases e
  | _, _, _, .obj _, e => by cases e
theorem DVs.kat (s : Same Z H) : ∀ {v : List V} {d : List D} {k : List NestedKey}, DVs K Z al v d -> toNKs d = some k -> KAtAll K.K H v k
  | _, _, _, .nil, e => by cases e; exact .nil
  | _, _, _, .cons h r, e => by
    obtain ⟨p, ps, h1, h2, rfl⟩ := toNKs_cons e
    exact .cons (DV.kat s h h1) (DVs.kat s r h2)
end
theorem CR.kat (s : Same Z H) {v : V} {d : D} {k : NestedKey} (h : CR K H Z al v d) (e : toNK d = some k) : KAt K.K H v k := by
  cases d with
  | lst ds => cases e
  | dic ds => cases e
  | dit ds => cases e
  | _ => exact DV.kat s h e
end
section
variable {X : Cx} {pins : List (Addr × Obj)} {σ : St} {H : Hp} {s : Shared}
theorem DNat.ty {a : Addr} {o : Obj} {xs : XS} (d : DNat X.kx H a o xs) (I : Inv X pins σ H s) : s.TypeIs (.ref a) "dict" := (d.dict I).typeIs
theorem room8 (hu : X.A.units + 65 < cLine) : (nestedKind X.prog X.w).room X.A.in1 := by
  show X.A.in1.units + 8 < cLine
  have : X.A.in1.units <= X.A.units + 1 := by
    first
      | exact Nat.le_refl _
      | simp [Around.in1]
  omega
def rInN (K : KX) (neg : Bool) : R2 := fun x y H Q => ∃ (a b : Addr) (o : Obj) (xs : XS) (nk : NestedKey), x = .ref b /\ y = .ref a /\ DNat K H a o xs /\ KAt K.K H (.ref b) nk /\ nk.depth <= 8 /\ Q (.bl (if neg then !(atKey xs nk).isSome else (atKey xs nk).isSome)) H
theorem op_inN (hu : X.A.units + 65 < cLine) : OpR X (compareOp .In) (rInN X.kx false) := by
  intro pins s σ H x y v u Q I rx ry h
  obtain ⟨a, b, o, xs, nk, rfl, rfl, d, kb, hd, q⟩ := h
  cases rx
  cases ry
  exact wpAny_in_heap (room8 hu) ⟨KAt.is I nk _ _ kb rfl, hd⟩ d.raw.ns (d.dict I) ⟨.bl _, H, I.tok _, rfl, q⟩
theorem op_notInN (hu : X.A.units + 65 < cLine) : OpR X (compareOp .NotIn) (rInN X.kx true) := by
  intro pins s σ H x y v u Q I rx ry h
  obtain ⟨a, b, o, xs, nk, rfl, rfl, d, kb, hd, q⟩ := h
  cases rx
  cases ry
  refine notIn_keyed (room8 hu) ⟨KAt.is I nk _ _ kb rfl, hd⟩ d.raw.ns ⟨xs, d.dict I, rfl⟩ ⟨.bl _, H, I.tok _, ?_, q⟩
  rw [valueAt_pairsH, Option.isSome_map]
  rfl
def rIxN (K : KX) : R2 := fun x y H Q => ∃ (a b : Addr) (o : Obj) (xs : XS) (nk : NestedKey) (p : Addr × Value) (v : V), x = .ref a /\ y = .ref b /\ DNat K H a o xs /\ KAt K.K H (.ref b) nk /\ nk.depth <= 8 /\ atKey xs nk = some p /\ RelV v p.2 /\ Q v H
theorem ix_N (hu : X.A.units + 65 < cLine) : IxR X (rIxN X.kx) := by
  intro value slice pins s σ H x y v u Q I rx ry h hs
  obtain ⟨a, b, o, xs, nk, p, z, rfl, rfl, d, kb, hd, hp, rz, q⟩ := h
  cases rx
  cases ry
  exact PyProof.Rows.tail_any (d.ty I) PySem.F.slot_dict_getitem.lookup (wpAny_getItem_heap (room8 hu) ⟨KAt.is I nk _ _ kb rfl, hd⟩ (d.dict I) hp ⟨z, H, I.tok _, rz, q⟩) hs
end
def kEqN (a b : D) : Bool := match toNK a, toNK b with
  | some x, some y => NestedKey.beq x y
  | _, _ => false
def isNK (d : D) : Bool := match d with
  | .tup _ => (toNK d).any fun k => decide (k.depth <= 8)
  | _ => false
def dgetN : List (D × D) -> D -> Option D
  | [], _ => none
  | (k, v) :: r, x => if kEqN k x then some v else dgetN r x
theorem isNK_ok {d : D} (h : isNK d = true) : ∃ ds k, d = .tup ds /\ toNK d = some k /\ k.depth <= 8 := by
  unfold isNK at h
  split at h
  · next ds =>
    cases q : toNK (.tup ds) with
    | none => rw [q] at h; cases h
    | some k => rw [q] at h; exact ⟨ds, k, rfl, rfl, of_decide_eq_true h⟩
  · cases h
theorem dgetN_at {K : KX} {Z : Hp} {al : List Addr} {x : D} {nk : NestedKey} (hx : toNK x = some nk) : ∀ {xs : XS} {ds : List (D × D)} {vs : List V}, toNKs (ds.map Prod.fst) = some (xs.map (·.1)) -> Vals vs (xs.map (·.2.2)) -> DVs K Z al vs (ds.map Prod.snd) ->
    (∀ d, dgetN ds x = some d -> ∃ p v, atKey xs nk = some p /\ RelV v p.2 /\ DV K Z al v d) /\ (dgetN ds x = none -> atKey xs nk = none)
  | [], [], _, _, _, _ => ⟨fun d h => (nomatch (show (none : Option D) = some d from h)), fun _ => rfl⟩
  | [], (_, _) :: _, _, e, _, _ => by
    obtain ⟨p, ps, _, _, e⟩ := toNKs_cons e
    cases e
  | _ :: _, [], _, e, _, _ => by cases e
  | (k0, b, u) :: xs, (dk, dv) :: ds, vs, e, rv, r => by
    obtain ⟨p, ps, h1, h2, e⟩ := toNKs_cons e
    have e : k0 :: xs.map (·.1) = p :: ps := e
    injection e with e1 e2
    rw [<- e1] at h1
    rw [<- e2] at h2
    have h1 : toNK dk = some k0 := h1
    cases rv with
    | cons rv1 rv2 =>
      cases r with
      | cons r1 r2 =>
        obtain ⟨i1, i2⟩ := dgetN_at hx h2 rv2 r2
        unfold dgetN
        have hk : kEqN dk x = decide (k0 = nk) := by unfold kEqN; rw [h1, hx, NestedKey.decide_eq]
        rw [hk]
        by_cases h : k0 = nk
        · have ha : atKey ((k0, b, u) :: xs) nk = some (b, u) := by unfold atKey; rw [List.find?_cons, decide_eq_true h]; rfl
          simp only [decide_eq_true h, if_true]
          exact ⟨fun d' q => by cases q; exact ⟨(b, u), _, ha, rv1, r1⟩, fun q => by cases q⟩
        · simp only [decide_eq_false h, Bool.false_eq_true, if_false]
          have : atKey ((k0, b, u) :: xs) nk = atKey xs nk := by unfold atKey; rw [List.find?_cons, decide_eq_false h]
          rw [this]
          exact ⟨i1, i2⟩
section
variable {cls : Nat -> Addr} {own : Nat -> Bool} {K : KX}
theorem dnat_of {G : Gh} {al : List Addr} {m : MS} {σ : St} {H : Hp} {a : Addr} {o : Obj} {xs : XS} {ds : List (D × D)} (r : Rst K cls own G al m σ H) (h1 : H a = some (hoN a o)) (h2 : RawN K a o xs) (h3 : DVs K (Zof G) al (xs.map fun x => V.ref x.2.1) (ds.map Prod.fst)) (h4 : toNKs (ds.map Prod.fst) = some (xs.map (·.1))) :
    DNat K H a o xs := ⟨h1, h2, h3.kat r.zh h4⟩
theorem CR.tref {H Z : Hp} {al : List Addr} {v : V} {ds : List D} (h : CR K H Z al v (.tup ds)) : ∃ b, v = .ref b := by
  obtain ⟨a, xs, rfl, _⟩ := h.tup
  exact ⟨a, rfl⟩
def gInA (a b : D) : Option D := match b with
  | .dit ds => if isNK a then some (.bl (dgetN ds a).isSome) else none
  | _ => gInD a b
def gNotInA (a b : D) : Option D := match b with
  | .dit ds => if isNK a then some (.bl (!(dgetN ds a).isSome)) else none
  | _ => gNotInD a b
def gIxA (a b : D) : Option D := match a with
  | .dit ds => if isNK b then dgetN ds b else none
  | _ => gIx a b
theorem inN_core {G : Gh} {al : List Addr} {m : MS} {σ : St} {H : Hp} {x y : V} {da : D} {ds : List (D × D)} (r : Rst K cls own G al m σ H) (hx : CR K H (Zof G) al x da) (hy : CR K H (Zof G) al y (.dit ds)) (hk : isNK da = true) :
    ∃ (a b : Addr) (o : Obj) (xs : XS) (nk : NestedKey) (vs : List V), x = .ref b /\ y = .ref a /\ DNat K H a o xs /\ KAt K.K H (.ref b) nk /\ nk.depth <= 8 /\ toNK da = some nk /\ toNKs (ds.map Prod.fst) = some (xs.map (·.1)) /\ Vals vs (xs.map (·.2.2)) /\ DVs K (Zof G) al vs (ds.map Prod.snd) := by
  obtain ⟨es, nk, rfl, h1, h2⟩ := isNK_ok hk
  obtain ⟨b, rfl⟩ := hx.tref
  obtain ⟨a, o, xs, vs, rfl, q1, q2, q3, q4, q5, q6⟩ := hy
  exact ⟨a, b, o, xs, nk, vs, rfl, rfl, dnat_of r q1 q2 q3 q4, hx.kat r.zh h1, h2, h1, q4, q5, q6⟩
theorem ok_inA : OpOk K cls own (rOr (rInAll K.K false) (rInN K false)) gInA := by
  intro G al m σ H x y da db d Q r hx hy e k
  unfold gInA at e
  split at e
  · next ds =>
    split at e
    · next hk =>
      cases e
      obtain ⟨a, b, o, xs, nk, vs, rfl, rfl, dn, kb, dp, h1, q4, q5, q6⟩ := inN_core r hx hy hk
      refine .inr ⟨a, b, o, xs, nk, rfl, rfl, dn, kb, dp, ?_⟩
      obtain ⟨i1, i2⟩ := dgetN_at h1 q4 q5 q6
      have e : (atKey xs nk).isSome = (dgetN ds da).isSome := by
        cases q : dgetN ds da with
        | none => rw [i2 q]; rfl
        | some d => obtain ⟨p, v, h1, _⟩ := i1 d q; rw [h1]; rfl
      simp only [e]
      exact k.keep r (.bl _)
    · cases e
  · exact .inl (ok_in G al m σ H x y da db d Q r hx hy e k)
theorem ok_notInA : OpOk K cls own (rOr (rInAll K.K true) (rInN K true)) gNotInA := by
  intro G al m σ H x y da db d Q r hx hy e k
  unfold gNotInA at e
  split at e
  · next ds =>
    split at e
    · next hk =>
      cases e
      obtain ⟨a, b, o, xs, nk, vs, rfl, rfl, dn, kb, dp, h1, q4, q5, q6⟩ := inN_core r hx hy hk
      refine .inr ⟨a, b, o, xs, nk, rfl, rfl, dn, kb, dp, ?_⟩
      obtain ⟨i1, i2⟩ := dgetN_at h1 q4 q5 q6
      have e : (atKey xs nk).isSome = (dgetN ds da).isSome := by
        cases q : dgetN ds da with
        | none => rw [i2 q]; rfl
        | some d => obtain ⟨p, v, h1, _⟩ := i1 d q; rw [h1]; rfl
      simp only [e]
      exact k.keep r (.bl _)
    · cases e
  · exact .inl (ok_notIn G al m σ H x y da db d Q r hx hy e k)
theorem ok_ixA : OpOk K cls own (rOr (rIxAll K.K) (rIxN K)) gIxA := by
  intro G al m σ H x y da db d Q r hx hy e k
  unfold gIxA at e
  split at e
  · next ds =>
    split at e
    · next hk =>
      obtain ⟨a, b, o, xs, nk, vs, rfl, rfl, dn, kb, dp, h1, q4, q5, q6⟩ := inN_core r hy hx hk
      obtain ⟨p, v, i1, i2, i3⟩ := (dgetN_at h1 q4 q5 q6).1 d e
      exact .inr ⟨a, b, o, xs, nk, p, v, rfl, rfl, dn, kb, dp, i1, i2, k.keep r i3⟩
    · cases e
  · exact .inl (ok_ix G al m σ H x y da db d Q r hx hy e k)
end
section
variable {cls : Nat -> Addr} {own : Nat -> Bool} {X : Cx} {a b : Expr} {fa fb : Den Hd} {pos : Pos}
theorem op_inA (hu : X.A.units + 65 < cLine) : OpR X (compareOp .In) (rOr (rInAll X.K false) (rInN X.kx false)) := opR_or (op_inU hu) (op_inN hu)
theorem op_notInA (hu : X.A.units + 65 < cLine) : OpR X (compareOp .NotIn) (rOr (rInAll X.K true) (rInN X.kx true)) := opR_or (op_notInU hu) (op_notInN hu)
theorem se_ixA (hu : X.A.units + 65 < cLine) (ha : SH cls own X a fa) (hb : SH cls own X b fb) (hs : PlainIx b) : SE cls own X (.Subscript a b pos) (eOp gIxA fa fb) := by
  refine pe_imp (pe_ix (IxR.or (ix_all hu) (ix_N hu)) ha hb hs) fun σ H Q q => ?_
  obtain ⟨G, al, m, d, m', r, e, k⟩ := q
  obtain ⟨h1, m1, h2, x, y, e1, e2, l1, l2, gz⟩ := eOp_ok e
  refine ⟨G, al, m, h1, m1, r, e1, fun G1 al1 v H1 ev1 r1 hv1 => ⟨G1, al1, m1, h2, m', r1, e2, fun G2 al2 u H2 ev2 r2 hv2 => ?_⟩⟩
  exact ok_ixA G2 al2 m' σ H2 v u x y d Q r2 (look_cr r2 (hv1.ev ev2) l1) (look_cr r2 hv2 l2) gz fun G3 al3 w H3 ev3 r3 dv => k G3 al3 w H3 ((ev1.trans ev2).trans ev3) r3 dv
end
end MI
namespace MI
open PySem PySem.Spec L2
theorem ext_ok {P : Program} {w : World} {H : Hp} {h : Heap} {a : Addr} {o : Obj} (e : h.get? a = some o) : ObjOk P w H h a (hoN a o) := ⟨e, ⟨o, e⟩, fun _ _ p k => k _ p⟩
def rSetN (K : KX) : TSet := fun o i v H Q => ∃ (a b : Addr) (ob : Obj) (xs : XS) (nk : NestedKey), o = .ref a /\ i = .ref b /\ DNat K H a ob xs /\ KAt K.K H (.ref b) nk /\ nk.depth <= 8 /\ xs.length < sizeLine /\
  ∀ o' u, RelV v u -> RawN K a o' (storedH xs nk b u) -> Q (upd H a (hoN a o'))
theorem storedH_keys {xs : XS} {k : NestedKey} {b : Addr} {u : Value} : ∀ x ∈ storedH xs k b u, x.1 = k \/ ∃ y ∈ xs, y.1 = x.1 := by
  intro x hx
  unfold storedH at hx
  split at hx
  · obtain ⟨y, hy, rfl⟩ := List.mem_map.mp hx
    unfold putAt
    split
    · exact .inr ⟨y, hy, rfl⟩
    · exact .inr ⟨y, hy, rfl⟩
  · rcases List.mem_append.mp hx with hx | hx
    · exact .inr ⟨x, hx, rfl⟩
    · rw [List.mem_singleton.mp hx]; exact .inl rfl
theorem set_N {X : Cx} (hu : X.A.units + 65 < cLine) : PSet X (rSetN X.kx) := by
  intro pins s σ H o i v ov iv u Q I ro ri rv h
  obtain ⟨a, b, ob, xs, nk, rfl, rfl, d, kb, hd, hl, q⟩ := h
  cases ro
  cases ri
  refine wpAny_setItem_heap (hsz := Nat.le_of_lt hl) (room8 hu) ⟨KAt.is I nk _ _ kb rfl, hd⟩ (d.dict I) fun h' dd' hs => ?_
  obtain ⟨o', es, ep, hq, h2, h3, h4, _, h5⟩ := dd'
  have raw : RawN X.kx a o' (storedH xs nk b u) := ⟨Nat.le_trans (storedH_length xs nk b u) hl, d.raw.ns, h2, ⟨es, ep, h3, h4⟩, h5, fun x hx => by
    rcases storedH_keys x hx with e | ⟨y, hy, e⟩
    · rw [e]; exact hd
    · rw [<- e]; exact d.raw.dp y hy⟩
  exact ⟨_, d_write I (by rw [d.at_]; exact True.intro) hs ⟨o', hq⟩ (ext_ok hq), q o' u rv raw⟩
def rSetD : TSet := fun o i v H Q => ∃ a H', o = .ref a /\ DPut H a i v H' /\ Q H'
theorem set_D {X : Cx} (hu : X.A.units + 65 < cLine) : PSet X rSetD := by
  intro pins s σ H o i v ov iv u Q I ro ri rv h
  obtain ⟨a, H', rfl, g, q⟩ := h
  cases ro
  exact d_setItem (by omega) I g ri rv fun s' I' => ⟨H', I', q⟩
def tsOr (r1 r2 : TSet) : TSet := fun o i v H Q => r1 o i v H Q \/ r2 o i v H Q
theorem set_or {X : Cx} {r1 r2 : TSet} (h1 : PSet X r1) (h2 : PSet X r2) : PSet X (tsOr r1 r2) := by
  intro pins s σ H o i v ov iv u Q I ro ri rv h
  rcases h with h | h
  · exact h1 pins s σ H o i v ov iv u Q I ro ri rv h
  · exact h2 pins s σ H o i v ov iv u Q I ro ri rv h
def rSetA (K : KX) : TSet := tsOr rSetL (tsOr rSetD (rSetN K))
theorem set_A {X : Cx} (hu : X.A.units + 65 < cLine) : PSet X (rSetA X.kx) := set_or set_list (set_or (set_D hu) (set_N hu))
def dput (ds : List (D × D)) (k v : D) : List (D × D) := if (dget ds k).isSome then ds.map (fun q => if kEq q.1 k then (q.1, v) else q) else ds ++ [(k, v)]
def dputN (ds : List (D × D)) (k v : D) : List (D × D) := if (dgetN ds k).isSome then ds.map (fun q => if kEqN q.1 k then (q.1, v) else q) else ds ++ [(k, v)]
def gSet : D -> D -> D -> Option D
  | .lst ds, .int i, v => (ixN ds.length i).map fun j => .lst (ds.set j v)
  | .dic ds, k, v => if isKey k && decide (ds.length < sizeLine) then some (.dic (dput ds k v)) else none
  | .dit ds, k, v => if isNK k && decide (ds.length < sizeLine) then some (.dit (dputN ds k v)) else none
  | _, _, _ => none
section
variable {K : KX} {cls : Nat -> Addr} {own : Nat -> Bool}
theorem dput_K {Z : Hp} {al : List Addr} {k : Key} {v : V} {d : D} (hv : DV K Z al v d) {kvs : List (Key × V)} {ds : List (D × D)} (e : ds.map Prod.fst = kvs.map (fun q => kD q.1)) (r : DVs K Z al (kvs.map Prod.snd) (ds.map Prod.snd)) :
    (dput ds (kD k) d).map Prod.fst = (putK kvs k v).map (fun q => kD q.1) /\ DVs K Z al ((putK kvs k v).map Prod.snd) ((dput ds (kD k) d).map Prod.snd) := by
  have hany : (kvs.any fun kv => decide (kv.1 = k)) = (dget ds (kD k)).isSome := by
    rw [valV_any]
    obtain ⟨i1, i2⟩ := dget_K k e r
    cases q : dget ds (kD k) with
    | none => rw [i2 q]; rfl
    | some d => obtain ⟨v, h1, _⟩ := i1 d q; rw [h1]; rfl
  unfold dput putK
  rw [hany]
  split
  · clear hany
    rename_i hs; clear hs
    induction kvs generalizing ds with
    | nil => cases ds with
      | nil => exact ⟨rfl, .nil⟩
      | cons _ _ => cases e
    | cons kv kvs ih => cases ds with
      | nil => cases e
      | cons q ds =>
        obtain ⟨qk, qd⟩ := q
        obtain ⟨kk, kv⟩ := kv
        have e' : qk :: ds.map Prod.fst = kD kk :: kvs.map (fun q => kD q.1) := e
        injection e' with e1 e2
        subst e1
        cases r with
        | cons r1 r2 =>
          obtain ⟨i1, i2⟩ := ih e2 r2
          simp only [List.map_cons]
          rw [kEq_kD]
          by_cases h : kk = k
          · subst h
            simp only [decide_true, if_true, List.cons.injEq]
            exact ⟨⟨trivial, i1⟩, .cons hv i2⟩
          · simp only [h, decide_false, Bool.false_eq_true, if_false, List.cons.injEq]
            exact ⟨⟨trivial, i1⟩, .cons r1 i2⟩
  · simp only [List.map_append, List.map_cons, List.map_nil]
    exact ⟨by rw [e], r.append (.cons hv .nil)⟩
theorem dputN_at {Z : Hp} {al : List Addr} {x : D} {nk : NestedKey} {b : Addr} {v : V} {u : Value} {d : D} (hx : toNK x = some nk) (hb : DV K Z al (.ref b) x) (hv : DV K Z al v d) (ru : RelV v u) {xs : XS} {ds : List (D × D)} {vs : List V} (hk : DVs K Z al (xs.map fun x => V.ref x.2.1) (ds.map Prod.fst))
    (e : toNKs (ds.map Prod.fst) = some (xs.map (·.1))) (rv : Vals vs (xs.map (·.2.2))) (r : DVs K Z al vs (ds.map Prod.snd)) :
    ∃ vs', DVs K Z al ((storedH xs nk b u).map fun x => V.ref x.2.1) ((dputN ds x d).map Prod.fst) /\ toNKs ((dputN ds x d).map Prod.fst) = some ((storedH xs nk b u).map (·.1)) /\ Vals vs' ((storedH xs nk b u).map (·.2.2)) /\ DVs K Z al vs' ((dputN ds x d).map Prod.snd) := by
  have hany : (atKey xs nk).isSome = (dgetN ds x).isSome := by
    obtain ⟨i1, i2⟩ := dgetN_at hx e rv r
    cases q : dgetN ds x with
    | none => rw [i2 q]; rfl
    | some d => obtain ⟨p, v, h1, _⟩ := i1 d q; rw [h1]; rfl
  unfold dputN storedH
  rw [hany]
  split
  · clear hany
    rename_i hs; clear hs
    induction xs generalizing ds vs with
    | nil => cases ds with
      | nil => cases rv; exact ⟨[], .nil, rfl, .nil, .nil⟩
      | cons q ds => cases hk
    | cons y xs ih => cases ds with
      | nil => cases hk
      | cons q ds =>
        obtain ⟨qk, qd⟩ := q
        obtain ⟨k0, b0, u0⟩ := y
        obtain ⟨p, ps, h1, h2, e'⟩ := toNKs_cons e
        have e' : k0 :: xs.map (·.1) = p :: ps := e'
        injection e' with e1 e2
        rw [<- e1] at h1
        rw [<- e2] at h2
        have h1 : toNK qk = some k0 := h1
        cases hk with
        | cons k1 k2 =>
          cases rv with
          | cons rv1 rv2 =>
            cases r with
            | cons r1 r2 =>
              obtain ⟨vs', i1, i2, i3, i4⟩ := ih k2 h2 rv2 r2
              have hkq : kEqN qk x = decide (k0 = nk) := by unfold kEqN; rw [h1, hx, NestedKey.decide_eq]
              simp only [List.map_cons]
              rw [hkq]
              by_cases h : k0 = nk
              · have hp : putAt nk u (k0, b0, u0) = (k0, b0, u) := by unfold putAt; rw [if_pos h]
                rw [hp]
                simp only [h, decide_true, if_true]
                refine ⟨v :: vs', .cons k1 i1, ?_, .cons ru i3, .cons hv i4⟩
                rw [toNKs, h1, i2, h]
              · have hp : putAt nk u (k0, b0, u0) = (k0, b0, u0) := by unfold putAt; rw [if_neg h]
                rw [hp]
                simp only [h, decide_false, Bool.false_eq_true, if_false]
                refine ⟨_ :: vs', .cons k1 i1, ?_, .cons rv1 i3, .cons r1 i4⟩
                rw [toNKs, h1, i2]
  · simp only [List.map_append, List.map_cons, List.map_nil]
    refine ⟨vs ++ [v], hk.append (.cons hb .nil), ?_, rv.append (.cons ru .nil), r.append (.cons hv .nil)⟩
    have app : ∀ {as : List D} {ks : List NestedKey}, toNKs as = some ks -> toNKs (as ++ [x]) = some (ks ++ [nk]) := by
      intro as
      induction as with
      | nil => intro ks h; cases h; rw [List.nil_append, toNKs, hx]; rfl
      | cons a as ih =>
        intro ks h
        obtain ⟨p, ps, h1, h2, rfl⟩ := toNKs_cons h
        rw [List.cons_append, toNKs, h1, ih h2]
        rfl
    exact app e
theorem CR.tupDV {H Z : Hp} {al : List Addr} {v : V} {d : D} (h : CR K H Z al v d) (e : isNK d = true) : DV K Z al v d := by
  obtain ⟨ds, k, rfl, _⟩ := isNK_ok e
  exact h
theorem ok_set {G : Gh} {al : List Addr} {m : MS} {σ : St} {H : Hp} {a : Addr} {o : HO} {d dk dv d' : D} {x v : V} {Q : Hp -> Prop} (r : Rst K cls own G al m σ H) (ho : H a = some o) (c : CO K (Zof G) al a o d) (hx : CR K H (Zof G) al x dk) (hv : DV K (Zof G) al v dv) (e : gSet d dk dv = some d')
    (k : ∀ o', CO K (Zof G) al a o' d' -> Q (upd H a o')) : rSetA K (.ref a) x v H Q := by
  unfold gSet at e
  split at e
  · next ds i =>
    cases q : ixN ds.length i with
    | none => rw [q] at e; cases e
    | some j =>
      rw [q] at e; cases e
      obtain ⟨xs, rfl, r1⟩ := c.lst
      cases hx.int
      exact .inl ⟨a, xs, i, j, rfl, rfl, ho, by rw [r1.length]; exact q, k (.lst _) (r1.set hv j)⟩
  · next ds =>
    split at e
    · next hk =>
      cases e
      rw [Bool.and_eq_true] at hk
      obtain ⟨k0, rfl⟩ := isKey_kD hk.1
      cases hx.key
      cases o with
      | dK kvs =>
        obtain ⟨c1, c2⟩ := c
        refine .inr (.inl ⟨a, _, rfl, DPut.k (k := k0) ho (by have h := congrArg List.length c1; simp only [List.length_map] at h; rw [<- h]; exact of_decide_eq_true hk.2), k (.dK _) (dput_K hv c1 c2)⟩)
      | _ => exact (show False from c).elim
    · cases e
  · next ds =>
    split at e
    · next hk =>
      cases e
      rw [Bool.and_eq_true] at hk
      have hxd := hx.tupDV hk.1
      obtain ⟨es, nk, rfl, h1, h2⟩ := isNK_ok hk.1
      obtain ⟨b, rfl⟩ := hx.tref
      cases o with
      | ext φ =>
        obtain ⟨ob, xs, vs, rfl, q2, q3, q4, q5, q6⟩ := c
        refine .inr (.inr ⟨a, b, ob, xs, nk, rfl, rfl, dnat_of r ho q2 q3 q4, hx.kat r.zh h1, h2, ?_, fun o' u ru raw => ?_⟩)
        · have := q3.length
          simp only [List.length_map] at this
          rw [this]; exact of_decide_eq_true hk.2
        · obtain ⟨vs', i1, i2, i3, i4⟩ := dputN_at h1 hxd hv ru q3 q4 q5 q6
          exact k _ ⟨o', _, vs', rfl, raw, i1, i2, i3, i4⟩
      | _ => exact (show False from c).elim
    · cases e
  · cases e
end
def sPut (i : Nat) (fk : Den Hd) (fv : Den D) : Den Fl := fv.bind fun v => fun m1 => match m1.sl[i]? with
  | some (some _) => match fk m1 with
    | .ok hk m2 => match m2.sl[i]?, look hk m2 with
      | some (some d), some k => match gSet d k v with
        | some d' => .ok .nx { m2 with sl := m2.sl.set i (some d') }
        | none => .bad
      | _, _ => .bad
    | .bad => .bad
  | _ => .bad
section
variable {cls : Nat -> Addr} {own : Nat -> Bool} {X : Cx} {a b : Expr} {fk : Den Hd} {fv : Den D} {pos ps npos : Pos} {i : Nat} {x : Str}
theorem ss_put (hu : X.A.units + 65 < cLine) (hN : X.N[i]? = some x) (hvis : Vis X.env.scope x) (ho : own i = true) (hk : SH cls own X b fk) (hv : SE cls own X a fv)
    (hd : (x == ("__debug__" : Str)) = false := by decide) (hcd : (x == ("__classdict__" : Str)) = false := by decide)
    (hs : swapsWithSole [.Subscript (.Name x npos) b ps] a pos.line X.env = pure false := by rfl) (hw : swappedStores [.Subscript (.Name x npos) b ps] a X.env = pure none := by rfl)
    (ha : ∀ z, assign (.Subscript (.Name x npos) b ps) X.env z = (holding [z] (eval (.Name x npos) X.env) >>= fun o => holding [z, o] (eval b X.env) >>= fun j => standAt ps >>= fun _ => holding [z, o, j] (setItem o j z) >>= fun _ => release [z, o, j] []) := by intro _; rfl) :
    SS cls own X (.Assign [.Subscript (.Name x npos) b ps] a pos) (sPut i fk fv) := by
  refine ps_imp (ps_asg hv (pg_sub (pe_var (pos := npos) hN hvis hd hcd) hk (set_A hu) ha) hs hw) fun E σ H q => ?_
  obtain ⟨G, al, m, fl, m', r, e, k⟩ := q
  obtain ⟨v, m1, e1, e⟩ := bind_ok e
  split at e
  case h_2 => cases e
  next d0 e0 =>
  split at e
  case h_2 => cases e
  next hk m2 e2 =>
  split at e
  case h_2 => cases e
  next d dk e3 e4 =>
  split at e
  case h_2 => cases e
  next d' e5 =>
  cases e
  refine ⟨G, al, m, v, m1, r, e1, fun G1 al1 vv H1 ev1 r1 dv => ?_⟩
  obtain ⟨p, o0, s0, _, _⟩ := r1.own i _ e0 ho
  refine ⟨.ref p, s0, G1, al1, m1, hk, m2, r1, e2, fun G2 al2 y H2 ev2 r2 hy => ?_⟩
  obtain ⟨p', o, s1, g1, c1⟩ := r2.own i _ e3 ho
  rw [s0] at s1; cases s1
  refine ok_set r2 (r2.hst.gh _ _ _ g1) c1 (look_cr r2 hy e4) (dv.ev ev2) e5 fun o' c' => ?_
  obtain ⟨ev3, r3⟩ := r2.write e3 ho s0 g1 c'
  exact k _ al2 σ _ ((ev1.trans ev2).trans ev3) r3
theorem sf_dic : SF cls own X (.Dict [] [] pos) (eC (.dic [])) := by
  refine pe_imp pe_dnewK fun σ H Q q => ?_
  obtain ⟨G, al, m, d, m', r, e, k⟩ := q
  cases e
  exact fun p hp => k G al p _ _ .refl (r.fresh hp) upd_same (r.hst.nog hp) ⟨rfl, .nil⟩
theorem se_glob {v : V} {u : Value} {d : D} {y : Str} (hg : Gl X y) (hm : X.mg y = some u) (rv : RelV v u) (hd : DV X.kx (fun _ => none) [] v d) (hdb : (y == ("__debug__" : Str)) = false := by decide) : SE cls own X (.Name y pos) (eC d) := by
  refine pe_imp (pe_glob hg hm rv hdb) fun σ H Q q => ?_
  obtain ⟨G, al, m, d0, m', r, e, k⟩ := q
  cases e
  exact k G al v H .refl r (hd.mono (fun a o (z : (none : Option HO) = some o) => nomatch z) List.nil_prefix)
end
end MI
namespace MI
open PySem PySem.Spec L2
theorem enum_new1 {v : Value} {o : Obj} {H : Heap -> Prop} (B : Begins v o H) :
    Meets (Builtin.«enumerate.__new__» ⟨[.type "enumerate", v], []⟩) (fun _ R s => H s.heap /\
      R (.ok (.ret (.ref (s.heap.push o).objs.size))) { s with heap := (s.heap.push o).push { cls := .type "enumerate", data := .fields #[.none, .bool false, .ref s.heap.objs.size, rawInt 0, .none, .none] } }) :=
  .of_wp fun prog w A R s h => by
    obtain ⟨hp, g, d, tk, os⟩ := s
    obtain ⟨h1, h⟩ := h
    have hsub := sub_enumerate
    have it1 : ∀ {B' : Around} {F : Value -> Shared -> Prop} {Q : Value -> Shared -> Prop}, Q (.ref hp.objs.size) ⟨hp.push o, g, d, tk, os⟩ -> wpAny (model prog w) B' (pyIter v) Q F ⟨hp, g, d, tk, os⟩ :=
      fun z => B.iter prog w _ _ ⟨hp, g, d, tk, os⟩ _ h1 z
    wp_walk using it1
    refine wpAny_stack_any fun st => wpAny_pure ?_
    split
    · rename_i c _ _ _ _ _
      cases (c == Value.type "enumerate") <;> (wp_walk using it1; exact ⟨_, rfl, h⟩)
    · (wp_walk using it1; exact ⟨_, rfl, h⟩)
section
variable {prog : Program} {w : World} {A : Around} {E : Value -> Shared -> Prop} {s : Shared}
theorem enum_call1 {v : Value} {o : Obj} {H : Heap -> Prop} {Q : Value -> Shared -> Prop} (B : Begins v o H) (h1 : H s.heap)
    (h : ∀ h', IsEnum h' (s.heap.objs.size + 1) s.heap.objs.size 0 .none -> h'.get? s.heap.objs.size = some o -> h'.objs.size = s.heap.objs.size + 2 ->
      (∀ b o, s.heap.get? b = some o -> h'.get? b = some o) -> Q (.ref (s.heap.objs.size + 1)) { s with heap := h' }) :
    wpAny (model prog w) A (call (.type "enumerate") [v]) Q E s := by
  refine callType_new F.called_enumerate (by decide) (F.typeCall_enumerate_1 _) (F.newCall_enumerate_1 _) (fun ob => F.args_object_init_2 ob _) F.entry_enumerate_new (enum_new1 B) ⟨h1, ?_⟩
  have sz : (s.heap.push o).objs.size = s.heap.objs.size + 1 := Heap.size_push ..
  show _ /\ _
  rw [sz]
  have en : IsEnum ((s.heap.push o).push { cls := .type "enumerate", data := .fields #[.none, .bool false, .ref s.heap.objs.size, rawInt 0, .none, .none] }) (s.heap.objs.size + 1) s.heap.objs.size 0 .none := by
    have z := Heap.get?_push_size (s.heap.push o) (o := { cls := .type "enumerate", data := .fields #[.none, .bool false, .ref s.heap.objs.size, rawInt 0, .none, .none] }) rfl
    rw [sz] at z
    exact z
  exact ⟨⟨_, en, rfl⟩, h _ en (Heap.get?_push_of_some _ (Heap.get?_push_size _ B.free)) (by rw [Heap.size_push, sz]) fun b ob x => Heap.get?_push_of_some _ (Heap.get?_push_of_some _ x)⟩
end
def IteT (K : PySem.W.Frag) (a : Addr) : It :=
  ⟨fun i H => ∃ (xs : List V) (x : V), SqT K H a xs /\ xs[i]? = some x,
   fun i H v H' => ∃ T x ob, v = .ref T /\ H T = none /\ ob.dict = none /\ H' = upd H T (.frz ob (.tup [.int (i : Nat), x])) /\ ∀ xs, SqT K H a xs -> xs[i]? = some x,
   fun i H => ∃ xs : List V, SqT K H a xs /\ xs.length = i⟩
theorem turn_enumT {P : Program} {w : World} {K : PySem.W.Frag} {elts : List Expr} {kk : Nat} {tpos : Pos} (a e it : Addr) :
    Turn P w K (.Tuple elts kk tpos) (IteT K a) [e, it] e (fun i h => (∃ old, IsEnum h e it ((i : Nat) : Int) old) /\ h.IsTupleIter it a i /\ e ≠ it) where
  mem := by simp
  obj := fun i h st b hb => by
    obtain ⟨⟨old, he⟩, ⟨o, ho, hc, hd⟩, _⟩ := st
    rcases (show b = e \/ b = it by simpa using hb) with z | z
    · subst z; exact ⟨_, he, fun v q => nomatch q⟩
    · subst z; exact ⟨o, ho, fun v q => by rw [hd] at q; cases q⟩
  keep := fun i h h' st k => let ⟨⟨old, he⟩, hi, hne⟩ := st; ⟨⟨old, k e (by simp) _ he⟩, hi.at fun o q => k it (by simp) o q, hne⟩
  item := by
    intro X hP hw hK hc i pins s σ H E I hf st hg
    subst hP hw hK
    obtain ⟨⟨old, he⟩, hit, hne⟩ := st
    obtain ⟨xs, x, hq, hx⟩ := hg
    obtain ⟨its, rv, p, hz⟩ := I.tuple hq
    obtain ⟨u, hu, ru⟩ := rv.get hx
    have hel : e < s.heap.objs.size := Heap.lt_size he
    have hil : it < s.heap.objs.size := by obtain ⟨_, q, _⟩ := hit; exact Heap.lt_size q
    have hpt : s.heap.IsTuple a its.toArray := p
    have hai : a ≠ it := by
      rintro rfl
      obtain ⟨o1, e1, c1, d1⟩ := hit
      obtain ⟨o2, e2, c2, n2, d2⟩ := p
      rw [e1] at e2; cases e2; rw [d1] at d2; cases d2
    have hea : e ≠ a := by
      rintro rfl
      obtain ⟨o2, e2, c2, n2, d2⟩ := p
      rw [show s.heap.get? e = _ from he] at e2; cases e2; cases d2
    have hil2 : i < its.toArray.size := by
      have := (List.getElem?_eq_some_iff.mp hu).1
      simpa using this
    have Dr := Draws.tuple (prog := X.prog) (w := X.w) (A := X.A.in1) (by have := I.ok.hd hc; exact this) it a hai its.toArray
    refine wpAny_pyNext_enum_itemD Dr he ⟨hit, hpt⟩ hil2 hne (by simp [hne, hea]) fun y h' tk hy ho hst' hT hsz hk => ?_
    have hyu : y = u := by
      have h1 : its.toArray[i]? = some y := hy
      have h2 : its.toArray[i]? = some u := by simpa using hu
      rw [h1] at h2; exact Option.some.inj h2
    subst hyu
    refine ⟨_, rfl, wpAny_letOwnedTupleGo_enum (s := { s with heap := h', toks := tk + 1 }) ho fun h'' he' sb => ?_⟩
    have hT2 : h''.get? s.heap.objs.size = some { cls := .type "tuple", data := .seq #[.int i tk, y] } := (sb.2 _ (Nat.ne_of_gt hel)).trans hT
    have nw : ObjOk X.prog X.w (upd H s.heap.objs.size (.frz (newT [.int i tk, y]) (.tup [.int (i : Nat), x]))) h'' s.heap.objs.size (.frz (newT [.int i tk, y]) (.tup [.int (i : Nat), x])) :=
      newT_ok (by show 2 <= sizeLine; decide) (.cons ⟨_, rfl⟩ (.cons ru .nil)) hT2
    have I1 : Inv X pins σ (upd H s.heap.objs.size (.frz (newT [.int i tk, y]) (.tup [.int (i : Nat), x]))) { s with heap := h'', toks := tk + 1 } :=
      I.turnedNew (ch := [e, it]) (fun b ob hb q => (sb.2 b (fun z => hb (by simp [z]))).trans (hk b ob (fun z => hb (by simp [z])) (fun z => hb (by simp [z])) q)) hf (Nat.le_refl _) nw
    refine ⟨.ref s.heap.objs.size, _, I1, rfl, ⟨_, x, _, rfl, I.hok.fresh (Nat.le_refl _), rfl, rfl, fun ys hy => by rw [I.tuple_inj hy hq]; exact hx⟩, ⟨⟨y, ?_⟩, hst'.1.at fun o q => (sb.2 it (Ne.symm hne)).trans q, hne⟩, fun b hb => ?_⟩
    · have z : ((i + 1 : Nat) : Int) = (i : Int) + 1 := by omega
      rw [z]; exact he'
    · have hb' : b < s.heap.objs.size := by
        rcases (show b = e \/ b = it by simpa using hb) with z | z
        · subst z; exact hel
        · subst z; exact hil
      rw [upd_ne (Nat.ne_of_lt hb')]
      exact (hf b hb).1
  done := by
    intro X hP hw hK hc i pins s σ H E I hf st hg
    subst hP hw hK
    obtain ⟨⟨old, he⟩, hit, hne⟩ := st
    obtain ⟨xs, hq, hx⟩ := hg
    obtain ⟨its, rv, p, hz⟩ := I.tuple hq
    obtain ⟨f0, f1, f2, f3, f4, f5⟩ := hf it (by simp)
    have hpt : s.heap.IsTuple a its.toArray := p
    have hai : a ≠ it := by
      rintro rfl
      obtain ⟨o1, e1, c1, d1⟩ := hit
      obtain ⟨o2, e2, c2, n2, d2⟩ := p
      rw [e1] at e2; cases e2; rw [d1] at d2; cases d2
    have hn : its.toArray.size = i := by
      have := rv.length
      simp only [List.size_toArray]
      omega
    have Dr := Draws.tuple (prog := X.prog) (w := X.w) (A := X.A.in1) (by have := I.ok.hd hc; exact this) it a hai its.toArray
    refine wpAny_pyNext_enum_endD Dr he (by rw [hn]; exact ⟨hit, hpt⟩) fun h' eb => ⟨rfl, I.turned (t' := s.toks) (fun b o hb q => eb b o hb q) f0 f1 f3 f4 f5⟩
  self := fun A i s Q E st h => let ⟨⟨_, he⟩, _⟩ := st; wpAny_pyIter_enum he h
def IteL (K : PySem.W.Frag) (a : Addr) : It :=
  ⟨fun i H => ∃ (xs : List V) (x : V), SqL K H a xs /\ xs[i]? = some x,
   fun i H v H' => ∃ T x ob, v = .ref T /\ H T = none /\ ob.dict = none /\ H' = upd H T (.frz ob (.tup [.int (i : Nat), x])) /\ ∀ xs, SqL K H a xs -> xs[i]? = some x,
   fun i H => ∃ xs : List V, SqL K H a xs /\ xs.length = i⟩
theorem turn_enumL {P : Program} {w : World} {K : PySem.W.Frag} {elts : List Expr} {kk : Nat} {tpos : Pos} (a e it : Addr) :
    Turn P w K (.Tuple elts kk tpos) (IteL K a) [e, it] e (fun i h => (∃ old, IsEnum h e it ((i : Nat) : Int) old) /\ h.IsListIter it a i /\ e ≠ it) where
  mem := by simp
  obj := fun i h st b hb => by
    obtain ⟨⟨old, he⟩, ⟨o, ho, hc, hd⟩, _⟩ := st
    rcases (show b = e \/ b = it by simpa using hb) with z | z
    · subst z; exact ⟨_, he, fun v q => nomatch q⟩
    · subst z; exact ⟨o, ho, fun v q => by rw [hd] at q; cases q⟩
  keep := fun i h h' st k => let ⟨⟨old, he⟩, hi, hne⟩ := st; ⟨⟨old, k e (by simp) _ he⟩, hi.at fun o q => k it (by simp) o q, hne⟩
  item := by
    intro X hP hw hK hc i pins s σ H E I hf st hg
    subst hP hw hK
    obtain ⟨⟨old, he⟩, hit, hne⟩ := st
    obtain ⟨xs, x, hq, hx⟩ := hg
    obtain ⟨its, rv, p, hz⟩ := I.list hq
    obtain ⟨u, hu, ru⟩ := rv.get hx
    have hel : e < s.heap.objs.size := Heap.lt_size he
    have hil : it < s.heap.objs.size := by obtain ⟨_, q, _⟩ := hit; exact Heap.lt_size q
    have hpt : s.heap.IsList a its.toArray := p.isList
    have hai : a ≠ it := by
      rintro rfl
      obtain ⟨o1, e1, c1, d1⟩ := hit
      obtain ⟨o2, e2, c2, n2, d2⟩ := p.isList
      rw [e1] at e2; cases e2; rw [d1] at d2; cases d2
    have hea : e ≠ a := by
      rintro rfl
      obtain ⟨o2, e2, c2, n2, d2⟩ := p.isList
      rw [show s.heap.get? e = _ from he] at e2; cases e2; cases d2
    have hil2 : i < its.toArray.size := by
      have := (List.getElem?_eq_some_iff.mp hu).1
      simpa using this
    have Dr := Draws.list (prog := X.prog) (w := X.w) (A := X.A.in1) (by have := I.ok.hd hc; exact this) it a hai its.toArray
    refine wpAny_pyNext_enum_itemD Dr he ⟨hit, hpt⟩ hil2 hne (by simp [hne, hea]) fun y h' tk hy ho hst' hT hsz hk => ?_
    have hyu : y = u := by
      have h1 : its.toArray[i]? = some y := hy
      have h2 : its.toArray[i]? = some u := by simpa using hu
      rw [h1] at h2; exact Option.some.inj h2
    subst hyu
    refine ⟨_, rfl, wpAny_letOwnedTupleGo_enum (s := { s with heap := h', toks := tk + 1 }) ho fun h'' he' sb => ?_⟩
    have hT2 : h''.get? s.heap.objs.size = some { cls := .type "tuple", data := .seq #[.int i tk, y] } := (sb.2 _ (Nat.ne_of_gt hel)).trans hT
    have nw : ObjOk X.prog X.w (upd H s.heap.objs.size (.frz (newT [.int i tk, y]) (.tup [.int (i : Nat), x]))) h'' s.heap.objs.size (.frz (newT [.int i tk, y]) (.tup [.int (i : Nat), x])) :=
      newT_ok (by show 2 <= sizeLine; decide) (.cons ⟨_, rfl⟩ (.cons ru .nil)) hT2
    have I1 : Inv X pins σ (upd H s.heap.objs.size (.frz (newT [.int i tk, y]) (.tup [.int (i : Nat), x]))) { s with heap := h'', toks := tk + 1 } :=
      I.turnedNew (ch := [e, it]) (fun b ob hb q => (sb.2 b (fun z => hb (by simp [z]))).trans (hk b ob (fun z => hb (by simp [z])) (fun z => hb (by simp [z])) q)) hf (Nat.le_refl _) nw
    refine ⟨.ref s.heap.objs.size, _, I1, rfl, ⟨_, x, _, rfl, I.hok.fresh (Nat.le_refl _), rfl, rfl, fun ys hy => by rw [I.list_inj hy hq]; exact hx⟩, ⟨⟨y, ?_⟩, hst'.1.at fun o q => (sb.2 it (Ne.symm hne)).trans q, hne⟩, fun b hb => ?_⟩
    · have z : ((i + 1 : Nat) : Int) = (i : Int) + 1 := by omega
      rw [z]; exact he'
    · have hb' : b < s.heap.objs.size := by
        rcases (show b = e \/ b = it by simpa using hb) with z | z
        · subst z; exact hel
        · subst z; exact hil
      rw [upd_ne (Nat.ne_of_lt hb')]
      exact (hf b hb).1
  done := by
    intro X hP hw hK hc i pins s σ H E I hf st hg
    subst hP hw hK
    obtain ⟨⟨old, he⟩, hit, hne⟩ := st
    obtain ⟨xs, hq, hx⟩ := hg
    obtain ⟨its, rv, p, hz⟩ := I.list hq
    obtain ⟨f0, f1, f2, f3, f4, f5⟩ := hf it (by simp)
    have hpt : s.heap.IsList a its.toArray := p.isList
    have hai : a ≠ it := by
      rintro rfl
      obtain ⟨o1, e1, c1, d1⟩ := hit
      obtain ⟨o2, e2, c2, n2, d2⟩ := p.isList
      rw [e1] at e2; cases e2; rw [d1] at d2; cases d2
    have hn : its.toArray.size = i := by
      have := rv.length
      simp only [List.size_toArray]
      omega
    have Dr := Draws.list (prog := X.prog) (w := X.w) (A := X.A.in1) (by have := I.ok.hd hc; exact this) it a hai its.toArray
    refine wpAny_pyNext_enum_endD Dr he (by rw [hn]; exact ⟨hit, hpt⟩) fun h' eb => ⟨rfl, I.turned (t' := s.toks) (fun b o hb q => eb b o hb q) f0 f1 f3 f4 f5⟩
  self := fun A i s Q E st h => let ⟨⟨_, he⟩, _⟩ := st; wpAny_pyIter_enum he h
theorem begins_tup (l : Addr) (items : Array Value) : Begins (.ref l) { cls := .type "tuple_iterator", data := .fields #[.ref l, .int 0 0] } fun h => h.IsTuple l items where
  iter := fun prog w A E s Q hl h => wpAny_pyIter_tuple hl h
  keeps := fun h h' x hk => x.at fun o e => hk l o e
  free := rfl
def iEnumS (K : PySem.W.Frag) (ta : TA) : TI := fun σ H R => ta σ H fun vs H1 => ∃ a, vs = [.ref a] /\ ((∃ xs, SqL K H1 a xs /\ R (IteL K a) H1) \/ (∃ xs, SqT K H1 a xs /\ R (IteT K a) H1))
theorem pi_enumS {X : Cx} {e : Expr} {ta : TA} {p pos tpos : Pos} {elts : List Expr} {kk : Nat} (hg : Gl X "enumerate") (hm : X.mg "enumerate" = none) (ha : PA X [e] ta) (hs : starEach [e] X.env = [(false, eval e X.env)] := by rfl) :
    PI X (.Tuple elts kk tpos) (.Call (.Name "enumerate" p) [e] [] pos) (iEnumS X.K ta) := by
  refine ⟨fun pins s σ H R I h => ?_⟩
  refine PyProof.Rows.Call_ (ld_blt I hg hm PyProof.Rows.boot_enumerate (PyProof.Rows.callWith_type1 (thn (ha.run pos pins s σ H _ I h) fun us s1 ⟨vs, H1, I1, r1, q1⟩ => ?_) hs rfl))
  obtain ⟨a, ex, q⟩ := q1
  subst ex
  cases r1 with
  | cons r rr =>
    cases rr
    cases r
    have fp : ∀ b ∈ [s1.heap.objs.size + 1, s1.heap.objs.size], FpOk X pins H1 b := by
      intro b hb
      have le : s1.heap.objs.size <= b := by
        rcases (show b = s1.heap.objs.size + 1 \/ b = s1.heap.objs.size by simpa using hb) with z | z <;> omega
      exact I1.fpOk le (I1.hok.fresh le)
    rcases q with ⟨xs, hq, q⟩ | ⟨xs, hq, q⟩
    · obtain ⟨its, rv, pl, hz⟩ := I1.list hq
      refine enum_call1 (begins_list a its.toArray) pl.isList fun h' he hit hsz hk => wpAny_pyIter_enum he ?_
      exact ⟨s1.heap.objs.size + 1, [s1.heap.objs.size + 1, s1.heap.objs.size], _, _, H1, rfl, I1.kept (t' := s1.toks) hk, turn_enumL a (s1.heap.objs.size + 1) s1.heap.objs.size, ⟨⟨.none, he⟩, ⟨_, hit, rfl, rfl⟩, Nat.succ_ne_self _⟩, fp, q⟩
    · obtain ⟨its, rv, pl, hz⟩ := I1.tuple hq
      refine enum_call1 (begins_tup a its.toArray) (show s1.heap.IsTuple a its.toArray from pl) fun h' he hit hsz hk => wpAny_pyIter_enum he ?_
      exact ⟨s1.heap.objs.size + 1, [s1.heap.objs.size + 1, s1.heap.objs.size], _, _, H1, rfl, I1.kept (t' := s1.toks) hk, turn_enumT a (s1.heap.objs.size + 1) s1.heap.objs.size, ⟨⟨.none, he⟩, ⟨_, hit, rfl, rfl⟩, Nat.succ_ne_self _⟩, fp, q⟩
def enumD (k : Int) : List D -> List D
  | [] => []
  | d :: ds => .tup [.int k, d] :: enumD (k + 1) ds
theorem enumD_len : ∀ (ds : List D) (k : Int), (enumD k ds).length = ds.length
  | [], _ => rfl
  | d :: ds, k => by rw [enumD, List.length_cons, List.length_cons, enumD_len ds]
theorem enumD_get : ∀ (ds : List D) (k : Int) (i : Nat) (d : D), ds[i]? = some d -> (enumD k ds)[i]? = some (.tup [.int (k + i), d])
  | [], _, _, _, h => by simp at h
  | x :: ds, k, 0, d, h => by
    have : x = d := by simpa using h
    subst this
    rw [enumD]; simp
  | x :: ds, k, i + 1, d, h => by
    rw [enumD, List.getElem?_cons_succ, enumD_get ds (k + 1) i d (by simpa using h), show k + 1 + (i : Int) = k + ((i + 1 : Nat) : Int) by omega]
theorem yield_pair {K : KX} {cls : Nat -> Addr} {own : Nat -> Bool} {G : Gh} {al : List Addr} {m : MS} {σ : St} {H : Hp} {T : Addr} {x y : V} {dx dy : D} (rs : Rst K cls own G al m σ H) {ob : Obj} (hT : H T = none) (hdb : ob.dict = none) (hx : DV K (Zof G) al x dx) (hy : DV K (Zof G) al y dy) :
    ∃ G', Ev G al G' al /\ Rst K cls own G' al m σ (upd H T (.frz ob (.tup [x, y]))) /\ DV K (Zof G') al (.ref T) (.tup [dx, dy]) /\ (∀ a t o, G a = some (t, o) -> G' a = some (t, o)) := by
  have hn := rs.hst.nog hT
  have ev : Ev G al (putG G T .frz (.frz ob (.tup [x, y]))) al := ev_put hn
  refine ⟨_, ev, (rs.fresh hT).tag hn upd_same, .tup (.inl ⟨ob, hdb, zof_of putG_same⟩) (.cons (hx.ev ev) (.cons (hy.ev ev) .nil)), fun a t o e => ?_⟩
  rw [putG_ne (by intro z; subst z; rw [hn] at e; cases e)]
  exact e
section
variable {cls : Nat -> Addr} {own : Nat -> Bool} {X : Cx} {e : Expr} {pos p tpos : Pos} {fs : Den (List Hd)} {elts : List Expr} {kk : Nat}
theorem walk_enumL {K : KX} {Gs : Gh} {als : List Addr} {p : Addr} {xs : List V} {ds : List D} (h : Zof Gs p = some (.lst xs)) (r : DVs K (Zof Gs) als xs ds) : WalkD K cls own (IteL K.K p) (enumD 0 ds) Gs als where
  goes := fun G al m σ H i ev rs hi => by
    rw [enumD_len] at hi
    obtain ⟨v, h1, _⟩ := r.get (List.getElem?_eq_getElem hi)
    exact ⟨xs, v, .inl (.inl (rs.zh _ _ (ev.same _ _ h))), h1⟩
  stops := fun G al m σ H ev rs => ⟨xs, .inl (.inl (rs.zh _ _ (ev.same _ _ h))), by rw [enumD_len, r.length]⟩
  yields := fun G al m σ H i x H' d ev rs hd y => by
    obtain ⟨T, x0, ob, rfl, hT, hdb, rfl, hx0⟩ := y
    have hi : i < ds.length := by have := (List.getElem?_eq_some_iff.mp hd).1; rw [enumD_len] at this; exact this
    rw [enumD_get ds 0 i _ (List.getElem?_eq_getElem hi)] at hd
    cases hd
    obtain ⟨v, h1, h2⟩ := (r.evz ev).get (List.getElem?_eq_getElem hi)
    have := hx0 xs (.inl (.inl (rs.zh _ _ (ev.same _ _ h))))
    rw [h1] at this; cases this
    have z : (0 : Int) + (i : Int) = (i : Int) := Int.zero_add _
    rw [z]
    exact yield_pair rs hT hdb (.int _) h2
theorem walk_enumT {K : KX} {Gs : Gh} {als : List Addr} {p : Addr} {xs : List V} {ds : List D} (h : SqN K.K (Zof Gs) p xs) (r : DVs K (Zof Gs) als xs ds) : WalkD K cls own (IteT K.K p) (enumD 0 ds) Gs als where
  goes := fun G al m σ H i ev rs hi => by
    rw [enumD_len] at hi
    obtain ⟨v, h1, _⟩ := r.get (List.getElem?_eq_getElem hi)
    exact ⟨xs, v, Same.tupS rs.zh (Same.tupN ev.same h), h1⟩
  stops := fun G al m σ H ev rs => ⟨xs, Same.tupS rs.zh (Same.tupN ev.same h), by rw [enumD_len, r.length]⟩
  yields := fun G al m σ H i x H' d ev rs hd y => by
    obtain ⟨T, x0, ob, rfl, hT, hdb, rfl, hx0⟩ := y
    have hi : i < ds.length := by have := (List.getElem?_eq_some_iff.mp hd).1; rw [enumD_len] at this; exact this
    rw [enumD_get ds 0 i _ (List.getElem?_eq_getElem hi)] at hd
    cases hd
    obtain ⟨v, h1, h2⟩ := (r.evz ev).get (List.getElem?_eq_getElem hi)
    have := hx0 xs (Same.tupS rs.zh (Same.tupN ev.same h))
    rw [h1] at this; cases this
    have z : (0 : Int) + (i : Int) = (i : Int) := Int.zero_add _
    rw [z]
    exact yield_pair rs hT hdb (.int _) h2
def iEnum (f : Den (List Hd)) : Den (List D) := f.bind fun hs => fun m => match looksV hs with
  | some [.lst ds] => .ok (enumD 0 ds) m
  | some [.tup ds] => .ok (enumD 0 ds) m
  | _ => .bad
theorem si_enum (hg : Gl X "enumerate") (hm : X.mg "enumerate" = none) (ha : SHs cls own X [e] fs) (hs : starEach [e] X.env = [(false, eval e X.env)] := by rfl) :
    SI cls own X (.Tuple elts kk tpos) (.Call (.Name "enumerate" p) [e] [] pos) (iEnum fs) := by
  refine pi_imp (pi_enumS hg hm ha hs) fun σ H R q => ?_
  obtain ⟨G, al, m, ds, m', r, e, k⟩ := q
  obtain ⟨hs, m1, e1, e⟩ := bind_ok e
  refine ⟨G, al, m, hs, m1, r, e1, fun G1 al1 v H1 ev1 r1 hv => ?_⟩
  split at e
  · next ds l =>
    cases e
    have dv := looksV_dv hv l
    cases dv with
    | cons d1 d2 =>
      cases d2
      cases d1 with
      | lst h1 h2 => exact ⟨_, rfl, .inl ⟨_, .inl (.inl (r1.zh _ _ h1)), k G1 al1 H1 _ ev1 r1 (walk_enumL h1 h2)⟩⟩
  · next ds l =>
    cases e
    have dv := looksV_dv hv l
    cases dv with
    | cons d1 d2 =>
      cases d2
      cases d1 with
      | tup h1 h2 => exact ⟨_, rfl, .inr ⟨_, Same.tupS r1.zh h1, k G1 al1 H1 _ ev1 r1 (walk_enumT h1 h2)⟩⟩
  · cases e
end
end MI
namespace MI
open PySem PySem.Spec L2
end MI
namespace MI
open PySem PySem.Spec L2
inductive Src where
  | p (i : Nat) | k (i : Nat) | d (i : Nat)
def arr {α : Type} (sp : List Src) (us mv ws : List α) : List α := sp.filterMap fun s => match s with
  | .p i => us[i]?
  | .k i => ws[i]?
  | .d i => mv[i]?
theorem arr_vals {sp : List Src} {vs mz zs : List V} {us mv ws : List Value} (h1 : Vals vs us) (h2 : Vals mz mv) (h3 : Vals zs ws) : Vals (arr sp vs mz zs) (arr sp us mv ws) := by
  have one : ∀ {xs : List V} {ys : List Value} (i : Nat), Vals xs ys -> (∃ x y, xs[i]? = some x /\ ys[i]? = some y /\ RelV x y) \/ (xs[i]? = none /\ ys[i]? = none) := by
    intro xs ys i h
    cases q : xs[i]? with
    | none => exact .inr ⟨rfl, h.none_of q⟩
    | some x => obtain ⟨u, e, r⟩ := h.get q; exact .inl ⟨x, u, rfl, e, r⟩
  unfold arr
  induction sp with
  | nil => exact .nil
  | cons s sp ih =>
    rw [List.filterMap_cons, List.filterMap_cons]
    cases s with
    | p i =>
      rcases one i h1 with ⟨x, y, e1, e2, r⟩ | ⟨e1, e2⟩
      · simp only [e1, e2]; exact .cons r ih
      · simp only [e1, e2]; exact ih
    | k i =>
      rcases one i h3 with ⟨x, y, e1, e2, r⟩ | ⟨e1, e2⟩
      · simp only [e1, e2]; exact .cons r ih
      · simp only [e1, e2]; exact ih
    | d i =>
      rcases one i h2 with ⟨x, y, e1, e2, r⟩ | ⟨e1, e2⟩
      · simp only [e1, e2]; exact .cons r ih
      · simp only [e1, e2]; exact ih
theorem arr_dvs {K : KX} {Z : Hp} {al : List Addr} {sp : List Src} {vs mz zs : List V} {us mv ws : List D} (h1 : DVs K Z al vs us) (h2 : DVs K Z al mz mv) (h3 : DVs K Z al zs ws) : DVs K Z al (arr sp vs mz zs) (arr sp us mv ws) := by
  have one : ∀ {xs : List V} {ys : List D} (i : Nat), DVs K Z al xs ys -> (∃ x y, xs[i]? = some x /\ ys[i]? = some y /\ DV K Z al x y) \/ (xs[i]? = none /\ ys[i]? = none) := by
    intro xs ys i h
    cases q : xs[i]? with
    | none =>
      have h0 := h.length
      have h1 : xs.length <= i := List.getElem?_eq_none_iff.mp q
      exact .inr ⟨rfl, List.getElem?_eq_none_iff.mpr (by omega)⟩
    | some x => obtain ⟨u, e, r⟩ := h.getV q; exact .inl ⟨x, u, rfl, e, r⟩
  unfold arr
  induction sp with
  | nil => exact .nil
  | cons s sp ih =>
    rw [List.filterMap_cons, List.filterMap_cons]
    cases s with
    | p i =>
      rcases one i h1 with ⟨x, y, e1, e2, r⟩ | ⟨e1, e2⟩
      · simp only [e1, e2]; exact .cons r ih
      · simp only [e1, e2]; exact ih
    | k i =>
      rcases one i h3 with ⟨x, y, e1, e2, r⟩ | ⟨e1, e2⟩
      · simp only [e1, e2]; exact .cons r ih
      · simp only [e1, e2]; exact ih
    | d i =>
      rcases one i h2 with ⟨x, y, e1, e2, r⟩ | ⟨e1, e2⟩
      · simp only [e1, e2]; exact .cons r ih
      · simp only [e1, e2]; exact ih
section
variable {K : PySem.W.Frag} {x qual : Str} {params : Arguments} {body : List Stmt} {scope : Scope} {dvs : List V} {kws : List (Str × V)} {f : Addr} {fd : FuncData} {ps : List Str}
theorem kb_plain (F : FunD K x qual params body scope [] [] f fd) (n : Nat) (ks : List Str) (sp : List Src)
    (h : ∀ (kV doc pm : Value) (an : Option Addr) (cdv ct : Value) (us ws : List Value), us.length = n -> ws.length = ks.length -> bindArgs (PySem.W.fnOf x qual params body scope .none kV doc pm an cdv ct) ⟨us, ks.zip ws⟩ = pure (ps.zip (arr sp us [] ws))) :
    KBn K fd ps n ks (fun us ws => arr sp us [] ws) (fun vs zs => arr sp vs [] zs) := by
  obtain ⟨oc, od, dV, kV, doc, pm, an, cdv, ct, osl, rfl, lk, hcd, hD, hK⟩ := F.ex
  rcases hD with ⟨_, rfl⟩ | ⟨e, _⟩
  · exact ⟨fun s us ws X l1 l2 => .of_eq (h kV doc pm an cdv ct us ws l1 l2), fun r1 r2 => arr_vals r1 .nil r2⟩
  · exact absurd rfl e
theorem kb_only (F : FunD K x qual params body scope [] kws f fd) (n : Nat) (ks : List Str) (ms : List (Str × V)) (sp : List Src) (hk : kws ≠ []) (hms : ∀ q ∈ ms, q ∈ kws)
    (h : ∀ (D : Addr) (doc pm : Value) (an : Option Addr) (cdv ct : Value) (us mv ws : List Value), us.length = n -> mv.length = ms.length -> ws.length = ks.length ->
      KwChain D ((ms.map (·.1)).zip mv) (bindArgs (PySem.W.fnOf x qual params body scope .none (.ref D) doc pm an cdv ct) ⟨us, ks.zip ws⟩) (ps.zip (arr sp us mv ws))) :
    ∃ mv : List Value, KBn K fd ps n ks (fun us ws => arr sp us mv ws) (fun vs zs => arr sp vs (ms.map (·.2)) zs) :=
  FunD.kbinds0 F n ks ms (fun us mv ws => arr sp us mv ws) hk hms (fun h1 h2 h3 => arr_vals h1 h2 h3) h
theorem kb_dflt (F : FunD K x qual params body scope dvs [] f fd) (n : Nat) (ks : List Str) (sp : List Src) (hd : dvs ≠ [])
    (h : ∀ (T : Addr) (kV doc pm : Value) (an : Option Addr) (cdv ct : Value) (us its ws : List Value), us.length = n -> its.length = dvs.length -> ws.length = ks.length ->
      ∃ k, bindArgs (PySem.W.fnOf x qual params body scope (.ref T) kV doc pm an cdv ct) ⟨us, ks.zip ws⟩ = seqItems? (.ref T) >>= k /\ k (some its.toArray) = pure (ps.zip (arr sp us its ws))) :
    ∃ mv : List Value, KBn K fd ps n ks (fun us ws => arr sp us mv ws) (fun vs zs => arr sp vs dvs zs) := by
  obtain ⟨oc, od, dV, kV, doc, pm, an, cdv, ct, osl, rfl, lk, hcd, hD, hK⟩ := F.ex
  rcases hD with ⟨e, _⟩ | ⟨_, T, o, its, m, rfl, lT, oT, rT⟩
  · exact absurd e hd
  · refine ⟨its, ⟨fun s us ws X l1 l2 => ?_, fun r1 r2 => arr_vals r1 rT r2⟩⟩
    obtain ⟨k, e1, e2⟩ := h T kV doc pm an cdv ct us its ws l1 rT.length.symm l2
    refine BindsTo.of_looks fun M => ?_
    rw [e1]
    exact looks_items X lT oT (.of_pure e2)
end
abbrev SKs (cls : Nat -> Addr) (own : Nat -> Bool) (X : Cx) (ks : List Keyword) (f : Den (List Hd)) : Prop := PK X ks (tHs X.kx cls own f)
theorem pk_imp {X : Cx} {e : List Keyword} {t t' : TA} (h : PK X e t) (i : ∀ σ H Q, t' σ H Q -> t σ H Q) : PK X e t' := ⟨fun pos pins s σ H Q I q => h.run pos pins s σ H Q I (i σ H Q q)⟩
def eCallK (fn : Fn) (sp : List Src) (dd : List D) (fs fk : Den (List D)) : Den D := fs.bind fun ds => fk.bind fun es => fun m => match fn (arr sp ds dd es) m.st with
  | some (d, st) => .ok d { m with st := st }
  | none => .bad
theorem hvs_len {K : KX} {own : Nat -> Bool} {G : Gh} {al : List Addr} {σ : St} : ∀ {vs : List V} {hs : List Hd}, HVs K own G al σ vs hs -> vs.length = hs.length
  | _, _, .nil => rfl
  | _, _, .cons _ r => by rw [List.length_cons, List.length_cons, hvs_len r]
section
variable {cls : Nat -> Addr} {own : Nat -> Bool} {X : Cx} {k n : Nat} {f : Addr} {fd : FuncData} {ps ks : List Str} {fn : Fn} {x : Str} {p pos kpos : Pos} {e : Expr} {es : List Expr} {fs fk : Den (List Hd)} {kws : List Keyword} {sp : List Src} {dvs : List V} {dds : List D} {mv : List Value} {nm : Option Str} {fe : Den Hd}
theorem sk_nil : SKs cls own X [] aNil := pk_imp pk_nil fun σ H Q ⟨G, al, m, d, m', r, e, k⟩ => by cases e; exact k G al _ H .refl r .nil
theorem sk_cons (h : SH cls own X e fe) (hr : SKs cls own X kws fk) : SKs cls own X (⟨nm, e, kpos⟩ :: kws) (aCons fe fk) := by
  refine pk_imp (pk_cons h hr) fun σ H Q q => ?_
  obtain ⟨G, al, m, d, m', r, e, k⟩ := q
  obtain ⟨d0, m1, e1, e2⟩ := bind_ok e
  obtain ⟨ds, m2, e3, e4⟩ := bind_ok e2
  cases e4
  refine ⟨G, al, m, d0, m1, r, e1, fun G' al' v H' ev r' hv => ?_⟩
  exact ⟨G', al', m1, ds, _, r', e3, fun G2 al2 vs H2 ev2 r2 hvs => k G2 al2 _ H2 (ev.trans ev2) r2 (.cons (hv.ev ev2) hvs)⟩
theorem aNil_len {m m' : MS} {hs : List Hd} (h : aNil m = .ok hs m') : hs.length = 0 := by cases h; rfl
theorem aCons_len {f : Den Hd} {r : Den (List Hd)} {j : Nat} (hr : ∀ m hs m', r m = .ok hs m' -> hs.length = j) {m m' : MS} {hs : List Hd} (h : aCons f r m = .ok hs m') : hs.length = j + 1 := by
  obtain ⟨d0, m1, e1, e2⟩ := bind_ok h
  obtain ⟨ds, m2, e3, e4⟩ := bind_ok e2
  cases e4
  rw [List.length_cons, hr _ _ _ e3]
theorem callK_core {np : Nat} (hnp : ∀ vs zs : List V, vs.length = n -> zs.length = ks.length -> (arr sp vs dvs zs).length = np) (hdd : DVs X.kx (fun _ => none) [] dvs dds) (hl1 : ∀ m hs m', fs m = .ok hs m' -> hs.length = n) (hl2 : ∀ m hs m', fk m = .ok hs m' -> hs.length = ks.length)
    {σ : St} {H : Hp} {Q : VK} (q : tD X.kx cls own (eCallK fn sp dds (aVals fs) (aVals fk)) σ H Q) :
    tHs X.kx cls own fs σ H fun vs H1 => tHs X.kx cls own fk σ H1 fun zs H2 => vs.length = n /\ zs.length = ks.length /\ SpD X.kx cls np fn (arr sp vs dvs zs) H2 Q L2.E0 := by
  obtain ⟨G, al, m, d, m', r, e, k⟩ := q
  obtain ⟨as, m1, e1, e⟩ := bind_ok e
  obtain ⟨bs, m2, e2, e⟩ := bind_ok e
  obtain ⟨hs, e1, l1⟩ := aVals_ok e1
  obtain ⟨gs, e2, l2⟩ := aVals_ok e2
  split at e
  · next d0 st0 e3 =>
    cases e
    refine ⟨G, al, m, hs, m1, r, e1, fun G1 al1 vs H1 ev1 r1 hv1 => ⟨G1, al1, m1, gs, m2, r1, e2, fun G2 al2 zs H2 ev2 r2 hv2 => ?_⟩⟩
    have n1 : vs.length = n := (hvs_len hv1).trans (hl1 _ _ _ e1)
    have n2 : zs.length = ks.length := (hvs_len hv2).trans (hl2 _ _ _ e2)
    have d1 := looksV_dv (hv1.ev ev2) l1
    have d2 := looksV_dv hv2 l2
    have hdd' : DVs X.kx (Zof G2) al2 dvs dds := hdd.mono (fun a o (z : (none : Option HO) = some o) => nomatch z) (List.nil_prefix)
    exact ⟨n1, n2, call_core (t := tNil) (E := L2.E0) (hnp vs zs n1 n2) r2 (arr_dvs d1 hdd' d2) e3 fun G' al' v H' ev r' dvv => k G' al' v H' ((ev1.trans ev2).trans ev) r' dvv⟩
  · cases e
theorem se_callK {np : Nat} (F : FnOk X.prog X.w X.K X.mg X.base CX0 k f fd ps (SpD X.kx cls np fn)) (hr : Room k X.A) (hg : Gl X x) (hm : X.mg x = some (.ref f)) (hk : PySem.W.keepIn X.K (.ref f) = true) (hb : KBn X.K fd ps n ks (fun us ws => arr sp us mv ws) (fun vs zs => arr sp vs dvs zs))
    (hdd : DVs X.kx (fun _ => none) [] dvs dds) (ha : SHs cls own X (e :: es) fs) (hkw : SKs cls own X kws fk) (hnp : ∀ vs zs : List V, vs.length = n -> zs.length = ks.length -> (arr sp vs dvs zs).length = np) (hl1 : ∀ m hs m', fs m = .ok hs m' -> hs.length = n) (hl2 : ∀ m hs m', fk m = .ok hs m' -> hs.length = ks.length)
    (hall : (backToKw pos (keywordEach kws X.env)).all (·.1.isSome) = true := by rfl) (hks : (backToKw pos (keywordEach kws X.env)).filterMap (·.1) = ks := by rfl)
    (hdb : (x == ("__debug__" : Str)) = false := by decide) (he : starEach (e :: es) X.env = (false, eval e X.env) :: starEach es X.env := by rfl)
    (hpl : ((backTo pos (starEach (e :: es) X.env)).any (·.1) || (backToKw pos (keywordEach kws X.env)).any (·.1.isNone)) = false := by rfl) :
    SE cls own X (.Call (.Name x p) (e :: es) kws pos) (eCallK fn sp dds (aVals fs) (aVals fk)) :=
  pe_imp (pe_callN F hr hg hm hk hb (pass0 (X := X)) ha hkw hall hks hdb he hpl) fun σ H Q q => callK_core hnp hdd hl1 hl2 q
end
end MI
namespace MI
open PySem PySem.Spec L2
def ownL (l : List Nat) : Nat -> Bool := fun i => l.contains i
def sFrz (i : Nat) (f : Den Fl) : Den Fl := fun m => match f m with
  | .ok fl m' => .ok fl { m' with sl := m'.sl.set i none }
  | .bad => .bad
section
variable {K : KX} {cls : Nat -> Addr} {own own' : Nat -> Bool} {G : Gh} {al : List Addr} {m : MS} {σ : St} {H : Hp} {i : Nat}
theorem Rst.freeze (r : Rst K cls own G al m σ H) (h1 : own i = true) (h2 : own' i = false) (h3 : ∀ j, j ≠ i -> own' j = own j) : ∃ G', Ev G al G' al /\ Rst K cls own' G' al m σ H := by
  by_cases hd : ∃ d, m.sl[i]? = some (some d)
  · obtain ⟨d, hd⟩ := hd
    obtain ⟨a, o, s1, g1, c1⟩ := r.own i d hd h1
    have ne : ∀ {b t u}, G b = some (t, u) -> t ≠ .slot i -> b ≠ a := fun e h z => by subst z; rw [g1] at e; cases e; exact h rfl
    have ev : Ev G al (putG G a .frz o) al := ⟨fun b u e => by rw [putG_ne (ne e (by intro z; cases z))]; exact e, fun b u e => by rw [putG_ne (ne e (by intro z; cases z))]; exact e, List.prefix_refl _⟩
    refine ⟨_, ev, ⟨fun b t u e => ?_, r.hst.len, fun n ob e hg => ?_⟩, r.len, fun j e hj hoj => ?_, fun j e hj hoj => ?_⟩
    · by_cases hb : b = a
      · subst hb; rw [putG_same] at e; cases e; exact r.hst.gh _ _ _ g1
      · rw [putG_ne hb] at e; exact r.hst.gh b t u e
    · obtain ⟨b, q1, q2⟩ := r.hst.sto n ob e hg
      refine ⟨b, q1, ?_⟩
      obtain ⟨o1, e1, r1⟩ := q2
      exact ⟨o1, by rw [putG_ne (ne e1 (by intro z; cases z))]; exact e1, r1.mono ev.same ev.al⟩
    · by_cases hji : j = i
      · subst hji
        rw [hd] at hj; cases hj
        exact ⟨.ref a, s1, CO.frz (zof_of putG_same) (c1.mono ev.same ev.al)⟩
      · obtain ⟨v, q1, q2⟩ := r.val j e hj (by rw [<- h3 j hji]; exact hoj)
        exact ⟨v, q1, q2.ev ev⟩
    · have hji : j ≠ i := by intro z; subst z; rw [h2] at hoj; cases hoj
      obtain ⟨b, ob, q1, q2, q3⟩ := r.own j e hj (by rw [<- h3 j hji]; exact hoj)
      exact ⟨b, ob, q1, by rw [putG_ne (ne q2 (by intro z; cases z; exact hji rfl))]; exact q2, q3.mono ev.same ev.al⟩
  · refine ⟨G, .refl, r.hst, r.len, fun j e hj hoj => ?_, fun j e hj hoj => ?_⟩
    · have hji : j ≠ i := by intro z; subst z; exact hd ⟨e, hj⟩
      exact r.val j e hj (by rw [<- h3 j hji]; exact hoj)
    · have hji : j ≠ i := by intro z; subst z; exact hd ⟨e, hj⟩
      exact r.own j e hj (by rw [<- h3 j hji]; exact hoj)
theorem Rst.thaw (r : Rst K cls own' G al m σ H) (h3 : ∀ j, j ≠ i -> own' j = own j) : Rst K cls own G al { m with sl := m.sl.set i none } σ H := by
  refine ⟨r.hst, by simp [r.len], fun j e hj hoj => ?_, fun j e hj hoj => ?_⟩
  · rcases getSet hj with ⟨_, _, e1⟩ | ⟨ne, hj⟩
    · cases e1
    · exact r.val j e hj (by rw [h3 j ne]; exact hoj)
  · rcases getSet hj with ⟨_, _, e1⟩ | ⟨ne, hj⟩
    · cases e1
    · exact r.own j e hj (by rw [h3 j ne]; exact hoj)
end
section
variable {cls : Nat -> Addr} {own own' : Nat -> Bool} {X : Cx} {sts : List Stmt} {f : Den Fl} {i : Nat}
theorem ss_frz0 (h1 : own i = true) (h2 : own' i = false) (h3 : ∀ j, j ≠ i -> own' j = own j) (h : SSs cls own' X sts f) : SSs cls own X sts (sFrz i f) := by
  refine pss_imp h fun E σ H q => ?_
  obtain ⟨G, al, m, fl, m', r, e, k⟩ := q
  unfold sFrz at e
  split at e
  case h_2 => cases e
  next fl1 m1 e1 =>
  cases e
  obtain ⟨G1, ev1, r1⟩ := r.freeze h1 h2 h3
  exact ⟨G1, al, m, fl, m1, r1, e1, fun G2 al2 σ2 H2 ev2 r2 => k G2 al2 σ2 H2 (ev1.trans ev2) (r2.thaw h3)⟩
theorem ss_frz {l : List Nat} (i : Nat) (h1 : ownL l i = true) (h : SSs cls (ownL (l.filter (· != i))) X sts f) : SSs cls (ownL l) X sts (sFrz i f) := by
  refine ss_frz0 h1 ?_ (fun j hj => ?_) h
  · unfold ownL
    rw [List.contains_eq_mem, decide_eq_false_iff_not]
    intro h
    have := (List.mem_filter.mp h).2
    simp at this
  · unfold ownL
    rw [List.contains_eq_mem, List.contains_eq_mem, decide_eq_decide]
    simp [List.mem_filter, hj]
end
def cutD (ds : List D) (lo hi : Option Int) : List D := (ds.drop (HT.sIx ds.length 0 lo)).take (HT.sIx ds.length ds.length hi - HT.sIx ds.length 0 lo)
def gCut : D -> Option Int -> Option Int -> Option D
  | .lst ds, lo, hi => some (.lst (cutD ds lo hi))
  | .tup ds, lo, hi => some (.tup (cutD ds lo hi))
  | .str z, lo, hi => if fitL z.length then some (.str (cutS z lo hi)) else none
  | _, _, _ => none
def pNo : Den (Option Int) := .ret none
def pInt (f : Den D) : Den (Option Int) := f.bind fun d => fun m => match d with
  | .int i => .ok (some i) m
  | _ => .bad
def eCut (fa : Den Hd) (fl fh : Den (Option Int)) : Den D := fa.bind fun h => fl.bind fun lo => fh.bind fun hi => fun m => match look h m with
  | some d => match gCut d lo hi with
    | some z => .ok z m
    | none => .bad
  | none => .bad
def tOp (K : KX) (cls : Nat -> Addr) (own : Nat -> Bool) (f : Den (Option Int)) : TO := fun σ H Q => ∃ G al m d m', Rst K cls own G al m σ H /\ f m = .ok d m' /\
  ∀ G' al' H', Ev G al G' al' -> Rst K cls own G' al' m' σ H' -> Q d H'
abbrev SP (cls : Nat -> Addr) (own : Nat -> Bool) (X : Cx) (e : Option Expr) (f : Den (Option Int)) : Prop := PO X e (tOp X.kx cls own f)
theorem po_imp {X : Cx} {e : Option Expr} {t t' : TO} (h : PO X e t) (i : ∀ σ H Q, t' σ H Q -> t σ H Q) : PO X e t' := ⟨fun pins s σ H Q I q => h.run pins s σ H Q I (i σ H Q q)⟩
section
variable {cls : Nat -> Addr} {own : Nat -> Bool} {X : Cx} {a : Expr} {lo hi : Option Expr} {fa : Den Hd} {f : Den D} {fl fh : Den (Option Int)} {p2 pos : Pos}
theorem sp_no : SP cls own X none pNo := po_imp po_none fun σ H Q ⟨G, al, m, d, m', r, e, k⟩ => by cases e; exact k G al H .refl r
theorem sp_int (h : SE cls own X a f) : SP cls own X (some a) (pInt f) := by
  refine po_imp (po_some h) fun σ H Q q => ?_
  obtain ⟨G, al, m, d, m', r, e, k⟩ := q
  obtain ⟨x, m1, e1, e⟩ := bind_ok e
  refine ⟨G, al, m, x, m1, r, e1, fun G1 al1 v H1 ev1 r1 dv => ?_⟩
  split at e
  · next i => cases e; cases dv; exact ⟨i, rfl, k G1 al1 H1 ev1 r1⟩
  · cases e
def rSlF (K : PySem.W.Frag) : V -> Option Int -> Option Int -> Hp -> VK -> Prop := fun x lo hi H Q => ∃ a xs, x = .ref a /\ SqT K H a xs /\
  (HT.sIx xs.length 0 lo = 0 /\ HT.sIx xs.length xs.length hi = xs.length -> Q (.ref a) H) /\ (¬ (HT.sIx xs.length 0 lo = 0 /\ HT.sIx xs.length xs.length hi = xs.length) -> ∀ p ob, H p = none -> ob.dict = none -> Q (.ref p) (upd H p (.frz ob (.tup (cutV xs lo hi)))))
theorem sl_tupF : SlR X (rSlF X.K) := by
  intro pins s σ H x v vl vu lo hi sl Q I rx hs pl pu h
  obtain ⟨a, xs, rfl, hx, q1, q2⟩ := h
  cases rx
  obtain ⟨its, r, ht, hz⟩ := I.tuple hx
  have hlen : its.toArray.size = xs.length := by rw [List.size_toArray]; exact r.length.symm
  refine ⟨"tuple", _, PyProof.Rows.slot_tuple_getitem.lookup, ht.typeIs, ?_⟩
  by_cases hw : HT.sIx xs.length 0 lo = 0 /\ HT.sIx xs.length xs.length hi = xs.length
  · exact getItem_tuple_whole ht hs pl pu (by rw [hlen]; exact hw) ⟨.ref a, H, I, rfl, q1 hw⟩
  · refine HT.getItem_tuple_cut ht hs pl pu (by rw [hlen]; exact hw) ?_ (by rw [hlen]; exact hz)
    rw [hlen]
    refine ⟨.ref s.heap.objs.size, _, I.laid (t' := s.toks) (o := .frz (newT _) (.tup (cutV xs lo hi))) (fun b ob q => Heap.get?_push_of_some _ q) (Nat.le_refl _)
      (newT_ok (Nat.le_trans (cutV_length xs lo hi) hz) ((r.drop (HT.sIx xs.length 0 lo)).take (HT.sIx xs.length xs.length hi - HT.sIx xs.length 0 lo)) ?_), rfl, q2 hw _ _ (I.hok.fresh (Nat.le_refl _)) rfl⟩
    exact Heap.get?_push_size _ rfl
def rCutU (K : PySem.W.Frag) : V -> Option Int -> Option Int -> Hp -> VK -> Prop := fun x lo hi H Q => rSlL K x lo hi H Q \/ (rSlF K x lo hi H Q \/ rSlS x lo hi H Q)
theorem sl_U : SlR X (rCutU X.K) := sl_list.or (sl_tupF.or sl_str)
theorem cutV_dvs {K : KX} {Z : Hp} {al : List Addr} {xs : List V} {ds : List D} {lo hi : Option Int} (h : DVs K Z al xs ds) : DVs K Z al (cutV xs lo hi) (cutD ds lo hi) := by
  unfold cutV cutD
  rw [h.length]
  exact (h.drop _).take _
theorem cutD_all {ds : List D} {lo hi : Option Int} (h : HT.sIx ds.length 0 lo = 0 /\ HT.sIx ds.length ds.length hi = ds.length) : cutD ds lo hi = ds := by
  unfold cutD
  rw [h.1, h.2]
  simp
theorem eCut_ok {m m' : MS} {d : D} (e : eCut fa fl fh m = .ok d m') : ∃ h m1 lo m2 hi x, fa m = .ok h m1 /\ fl m1 = .ok lo m2 /\ fh m2 = .ok hi m' /\ look h m' = some x /\ gCut x lo hi = some d := by
  obtain ⟨h, m1, e1, e⟩ := bind_ok e
  obtain ⟨lo, m2, e2, e⟩ := bind_ok e
  obtain ⟨hi, m3, e3, e⟩ := bind_ok e
  split at e
  · next x l1 =>
    split at e
    · next z gz => cases e; exact ⟨h, m1, lo, m2, hi, x, e1, e2, e3, l1, gz⟩
    · cases e
  · cases e
theorem se_cut (ha : SH cls own X a fa) (hl : SP cls own X lo fl) (hh : SP cls own X hi fh) : SE cls own X (.Subscript a (.Slice lo hi none p2) pos) (eCut fa fl fh) := by
  refine pe_imp (pe_slice sl_U ha hl hh) fun σ H Q q => ?_
  obtain ⟨G, al, m, d, m', r, e, k⟩ := q
  obtain ⟨h, m1, l0, m2, h0, x, e1, e2, e3, l1, gz⟩ := eCut_ok e
  refine ⟨G, al, m, h, m1, r, e1, fun G1 al1 v H1 ev1 r1 hv => ⟨G1, al1, m1, l0, m2, r1, e2, fun G2 al2 H2 ev2 r2 => ⟨G2, al2, m2, h0, m', r2, e3, fun G3 al3 H3 ev3 r3 => ?_⟩⟩⟩
  have cr := look_cr r3 ((hv.ev ev2).ev ev3) l1
  have kk : Post X.kx cls own G3 al3 m' σ d Q := fun G4 al4 v4 H4 ev4 r4 dv4 => k G4 al4 v4 H4 (((ev1.trans ev2).trans ev3).trans ev4) r4 dv4
  unfold gCut at gz
  split at gz
  · next ds =>
    cases gz
    obtain ⟨p, xs, rfl, h1, c1⟩ := cr
    refine .inl ⟨p, xs, rfl, .inl (.inl h1), fun q hq => ?_⟩
    have hn := r3.hst.nog hq
    have ev : Ev G3 al3 (putG G3 q .frz (.lst (cutV xs l0 h0))) al3 := ev_put hn
    exact kk _ al3 _ _ ev ((r3.fresh hq).tag hn upd_same) (.lst (zof_of putG_same) ((cutV_dvs c1).ev ev))
  · next ds =>
    cases gz
    obtain ⟨p, xs, rfl, h1, c1⟩ := cr.tup
    refine .inr (.inl ⟨p, xs, rfl, Same.tupS r3.zh h1, fun hz => ?_, fun _ q ob hq hdb => kk.tup r3 (cutV_dvs c1) hq hdb⟩)
    rw [c1.length] at hz
    rw [cutD_all hz] at kk
    exact kk.keep r3 (.tup h1 c1)
  · next z =>
    split at gz
    · next hf => cases gz; cases cr.str; exact .inr (.inr ⟨z, rfl, fitL_le hf, kk.keep r3 (.str _)⟩)
    · cases gz
  · cases gz
end
end MI
namespace MI
open PySem PySem.Spec L2
section
variable {prog : Program} {w : World} {A : Around} {E : Value -> Shared -> Prop} {s : Shared}
def Colls (prog : Program) (w : World) (A : Around) (s : Shared) (r : Addr) (vs : List Value) : Prop := ∀ (E : Value -> Shared -> Prop) (Q : List Value -> Shared -> Prop),
  (∀ (h' : Heap) (tk : Nat), (∀ b o, s.heap.get? b = some o -> h'.get? b = some o) -> Q vs { s with heap := h', toks := tk }) -> wpAny (model prog w) A (collect (.ref r)) Q E s
theorem sorted_coll {β : Type} {R : Value -> β -> Prop} {enc : β -> PyData} {r : Addr} {vs : List Value} {bs : List β} {Q : Value -> Shared -> Prop} (hc : Colls prog w A.in1 s r vs) (hL : vs.length <= sizeLine) (e : PySem.W.EachIs R vs bs)
    (er : PySem.W.EachIs (fun v b => ∃ as, Reads s.heap v (enc b) as) vs bs) (hal : PySem.W.AllAlike (bs.map enc))
    (hS : ∀ s' : Shared, (∀ b o, s.heap.get? b = some o -> s'.heap.get? b = some o) -> PySem.W.SortsAt prog w A.in1.in1 s' (PySem.W.dataKind s'.heap (bs.map enc)) vs)
    (h : ∀ (h1 h2 : Heap) (tk : Nat) (n : Nat) (out : List Value), (∀ b o, s.heap.get? b = some o -> h1.get? b = some o) -> (∀ b o, h1.get? b = some o -> h2.get? b = some o) -> h2.get? h1.objs.size = some (PyProof.Rows.seqObj "list" out.toArray n) -> PySem.W.EachIs R out (bs.mergeSort (PySem.W.dataLe false enc)) ->
      Q (.ref h1.objs.size) { s with heap := h2, toks := tk }) : wpAny (model prog w) A (call (.builtin "sorted") [.ref r]) Q E s := by
  refine PySem.Calls.call_function_entry PyProof.Rows.kind_sorted PyProof.Rows.plain_sorted PyProof.Rows.entry_sorted (PyProof.Rows.args_sorted1 _) ?_
  unfold Builtin.«sorted»
  refine wpAny_bind (m := checkCount "sorted" 1 1 _) (wpAny_pure ?_)
  refine wpAny_bind (hc _ _ fun h' tk hk => ?_)
  refine wpAny_bind (wpAny_newList ?_ hL)
  have hob : (h'.push { cls := .type "list", data := .seq vs.toArray }).get? h'.objs.size = some (PyProof.Rows.seqObj "list" vs.toArray 0) := Heap.get?_push_size _ rfl
  have kp : ∀ b o, s.heap.get? b = some o -> (PySem.W.sortingHeap (h'.push { cls := .type "list", data := .seq vs.toArray }) h'.objs.size vs).get? b = some o := fun b o q =>
    PySem.W.sortingHeap_old (Nat.ne_of_lt (Heap.lt_size (hk b o q))) (Heap.get?_push_of_some _ (hk b o q))
  have er' : PySem.W.EachIs (fun v b => ∃ as, Reads (PySem.W.sortingHeap (h'.push { cls := .type "list", data := .seq vs.toArray }) h'.objs.size vs) v (enc b) as) vs bs := er.mono fun _ _ ⟨as, q⟩ => ⟨as, PyProof.Rows.Reads.keeps kp q⟩
  have S := hS { s with heap := PySem.W.sortingHeap (h'.push { cls := .type "list", data := .seq vs.toArray }) h'.objs.size vs, toks := tk } kp
  refine wpAny_bind (wpAny_holding (wpAny_call_entry PyProof.Rows.slot_list_sort ⟨_, hob, rfl⟩ PyProof.Rows.entry_list_sort ?_ (PyProof.Rows.args_list_sort _)))
  show wpAny (model prog w) A.in1.in1 (Builtin.«list.sort» ⟨[.ref h'.objs.size], []⟩) _ _ { s with heap := h'.push { cls := .type "list", data := .seq vs.toArray }, toks := tk }
  refine PySem.W.list_sort_vals (s := { s with heap := h'.push { cls := .type "list", data := .seq vs.toArray }, toks := tk }) hob S hL ⟨_, rfl, wpAny_pure ⟨_, rfl, ?_⟩⟩
  obtain ⟨ep, he⟩ := PyProof.Rows.sortedHeap_at (vs := vs) (out := (PySem.W.sortVals (PySem.W.dataKind (PySem.W.sortingHeap (h'.push { cls := .type "list", data := .seq vs.toArray }) h'.objs.size vs) (bs.map enc)) false vs vs).toArray) hob
  refine h h' _ tk ep _ hk (fun b o q => ?_) he (PySem.W.sortVals_data false e er' hal)
  rw [PyProof.Rows.sortedHeap_old (Nat.ne_of_lt (Heap.lt_size q)) (Heap.lt_size (Heap.get?_push_of_some _ q))]
  exact Heap.get?_push_of_some _ q
end
section
variable {prog : Program} {w : World} {A : Around} {E : Value -> Shared -> Prop} {s : Shared}
theorem call_tup_lt {Q : Value -> Shared -> Prop} {l b : Addr} {items items2 : Array Value} {e r : Nat -> Bool} (hl : s.heap.IsTuple l items) (hb : s.heap.IsTuple b items2)
    (he : ∀ j (h1 : j < items.size) (h2 : j < items2.size), SeqAt.EqAt A.in1 s items[j] items2[j] (e j)) (hr : ∀ j (h1 : j < items.size) (h2 : j < items2.size), e j = false -> SeqAt.RcLt A.in1 s items[j] items2[j] (r j))
    (h : Q (.bool (SeqAt.firstLt e r (decide (items.size < items2.size)) (List.range (min items.size items2.size)))) s) : wpAny (model prog w) A (call (.builtin "tuple.__lt__") [.ref l, .ref b]) Q E s := by
  obtain ⟨⟨c1, dd, da, sl⟩, ho, hc, n, hd⟩ := id hl
  obtain ⟨⟨c2, dd2, da2, sl2⟩, ho2, hc2, n2, hd2⟩ := id hb
  simp only at hc hd hc2 hd2
  subst hc hd hc2 hd2
  exact call_meets PySem.F.slot_tuple_lt ⟨_, ho, rfl⟩ PySem.F.entry_tuple_lt (PySem.F.args_tuple_lt_2 _ _) (SeqAt.tuple_ltAt l b items items2 n n2 dd dd2 sl sl2 e r) ⟨ho, ho2, he, hr, h⟩
theorem oneLt_tup {xs ys : List PyData} {a b : Value} {as bs : List Addr} {Q : Bool -> Shared -> Prop} (ra : Reads s.heap a (.tuple xs) as) (rb : Reads s.heap b (.tuple ys) bs) (h : PySem.W.alike (.tuple xs) (.tuple ys) = true)
    (hu : A.units + min (PyData.tuple xs).depth (PyData.tuple ys).depth < cLine) (hq : Q (PySem.W.dataLt (.tuple xs) (.tuple ys)) s) : wpAny (model prog w) A (PyProof.Rows.oneLt' true a b) Q E s := by
  have hal : PySem.W.alikeAll xs ys = true := by simpa [PySem.W.alike] using h
  cases ra with
  | @tuple l o vs n _ as₁ h1 h2 h3 h4 =>
    cases rb with
    | @tuple l' o' vs' n' _ bs₁ k1 k2 k3 k4 =>
      have n1 : vs.size = xs.length := by simpa using SeqAt.ReadsAll.length _ _ _ h4
      have n2 : vs'.size = ys.length := by simpa using SeqAt.ReadsAll.length _ _ _ k4
      rw [PySem.W.dataLt_tuple, <- PySem.W.firstLt_toks xs ys hal, <- n1, <- n2] at hq
      rw [PyProof.Rows.oneLt'_eq]
      simp only [if_true]
      refine wpAny_bind (wpAny_cRoomFor (SeqAt.room_here hu) ?_)
      refine wpAny_bind (wpAny_callSpecialIfBound?_slot (T := "tuple") ⟨_, h1, h2⟩ PySem.F.slot_tuple_lt (call_tup_lt (e := SeqAt.pairEq xs ys) (r := fun j => PySem.W.dataLt (xs.getD j .none) (ys.getD j .none)) ⟨_, h1, h2, _, h3⟩ ⟨_, k1, k2, _, k3⟩ (fun j j1 j2 => ?_) (fun j j1 j2 hj => ?_) ?_))
      · have := PySem.W.eqAt_alikeAll xs ys A.in1 s vs.toList vs'.toList _ _ h4 k4 hal (SeqAt.room_in hu) j (by simpa using j1) (by simpa using j2)
        simpa using this
      · have := PySem.W.rcLt_alikeAll xs ys A.in1 s vs.toList vs'.toList _ _ h4 k4 hal (SeqAt.room_in hu) j (by simpa using j1) (by simpa using j2) hj
        simpa using this
      · exact wpAny_truthy_bool hq
def headT : PyData -> Bool
  | .tuple (_ :: _) => true
  | _ => false
theorem tup_firsts : ∀ {vs : List Value} {ds : List PyData} {Q : List (Option Value) -> Shared -> Prop}, PySem.W.EachIs (fun v d => ∃ as, Reads s.heap v d as) vs ds -> (∀ d ∈ ds, ∃ xs, d = .tuple xs) ->
    (∀ fs : List (Option Value), fs.map Option.isSome = ds.map headT -> Q fs s) -> wpAny (model prog w) A (vs.mapM PyProof.Rows.firstOfTuple') Q E s
  | _, _, _, .nil, _, h => by rw [List.mapM_nil]; exact wpAny_pure (h [] rfl)
  | _, _, Q, .cons (b := d) ⟨as, r⟩ t, ht, h => by
    obtain ⟨xs, rfl⟩ := ht d (List.mem_cons_self ..)
    cases r with
    | @tuple a o vs n _ _ ho hc hd hr =>
      rw [List.mapM_cons]
      refine wpAny_bind ?_
      rw [PySem.W.kas_first_eq]
      refine wpAny_bind (PySem.W.Looks.here (show PySem.W.Looks (model prog w) s.heap (typeOf (.ref a)) o.cls from (PySem.W.Looks.ld ho).andThen .now) ?_)
      rw [hc, if_neg (by first | decide | simp)]
      refine wpAny_bind (PyProof.Rows.listItems_at ho hd (wpAny_pure ?_))
      refine wpAny_bind (tup_firsts (Q := fun bs s' => wpAny (model prog w) A (pure (vs[0]? :: bs)) Q E s') t (fun d hd => ht d (List.mem_cons_of_mem _ hd)) fun fs e => wpAny_pure (h _ ?_))
      rw [List.map_cons, List.map_cons, e]
      congr 1
      have hl : vs.size = xs.length := by simpa using SeqAt.ReadsAll.length _ _ _ hr
      cases xs with
      | nil =>
        have : vs[0]? = none := by rw [Array.getElem?_eq_none]; rw [hl]; exact Nat.le_refl _
        rw [this]; rfl
      | cons x xr =>
        have hlt : 0 < vs.size := by rw [hl]; simp
        rw [Array.getElem?_eq_getElem hlt]; rfl
theorem sortsAt_tups {vs : List Value} {ds : List PyData} (e : PySem.W.EachIs (fun v d => ∃ as, Reads s.heap v d as) vs ds) (hal : PySem.W.AllAlike ds) (ht : ∀ d ∈ ds, ∃ xs, d = .tuple xs) (hne : ds.all headT = false) (hu : ∀ d, d ∈ ds -> A.units + d.depth < cLine) :
    PySem.W.SortsAt prog w A s (PySem.W.dataKind s.heap ds) vs := by
  have room : ∀ {d d' : PyData}, d ∈ ds -> A.units + min d.depth d'.depth < cLine := fun {d d'} hd => Nat.lt_of_le_of_lt (Nat.add_le_add_left (Nat.min_le_left _ _) _) (hu d hd)
  refine ⟨fun v hv => ?_, ?_⟩
  · obtain ⟨d, hd, as, r⟩ := e.left v hv
    exact ⟨_, PySem.W.dataKind_some hal hd r⟩
  · have hall : ∀ fs : List (Option Value), fs.map Option.isSome = ds.map headT -> (fs.toArray.all fun x => x.isSome) = false := by
      intro fs hf
      rw [List.all_toArray]
      have h1 : (fs.all fun x => x.isSome) = (fs.map Option.isSome).all id := by rw [List.all_map]; rfl
      rw [h1, hf, List.all_map]
      exact hne
    cases hb : (ds.map headT)[0]? with
    | none =>
      cases ds with
      | nil => cases hne
      | cons d ds => cases hb
    | some b =>
      cases b with
      | true =>
        refine ⟨PyProof.Rows.general', ?_, fun h2 E Q hq => ?_⟩
        · intro E x y a b Q ha hb hq
          obtain ⟨d, as, hd, ra, rfl⟩ := PySem.W.dataKind_inv ha
          obtain ⟨d', as', hd', rb, rfl⟩ := PySem.W.dataKind_inv hb
          show wpAny _ _ (PyProof.Rows.oneLt' false x y) _ _ _
          exact PySem.W.oneLt_alike (f := false) (fun z => nomatch z) ra rb (hal d hd d' hd') (by obtain ⟨xs, rfl⟩ := ht d hd; intro z; cases z) (room hd) hq
        · rw [PyProof.Rows.keyKind'_eq, List.mapM_toArray, map_eq_pure_bind]
          refine wpAny_bind (wpAny_bind (tup_firsts e ht fun fs hf => wpAny_pure ?_))
          rw [if_neg (by rw [hall fs hf]; decide)]
          have h0 : (fs.toArray[0]?.bind id).isSome = true := by
            have : (fs.map Option.isSome)[0]? = some true := by rw [hf]; exact hb
            rw [List.getElem?_map] at this
            rw [List.getElem?_toArray]
            cases q : fs[0]? with
            | none => rw [q] at this; cases this
            | some o => rw [q] at this; cases o with
              | none => cases this
              | some v => rfl
          rw [if_pos h0]
          exact wpAny_pure hq
      | false =>
        refine ⟨PyProof.Rows.oneType', ?_, fun h2 E Q hq => ?_⟩
        · intro E x y a b Q ha hb hq
          obtain ⟨d, as, hd, ra, rfl⟩ := PySem.W.dataKind_inv ha
          obtain ⟨d', as', hd', rb, rfl⟩ := PySem.W.dataKind_inv hb
          rw [PyProof.Rows.keyLt'_oneType]
          have hdd := hal d hd d' hd'
          have hr := room (d' := d') hd
          obtain ⟨xs, rfl⟩ := ht d hd
          obtain ⟨ys, rfl⟩ := ht d' hd'
          exact oneLt_tup ra rb hdd hr hq
        · rw [PyProof.Rows.keyKind'_eq, List.mapM_toArray, map_eq_pure_bind]
          refine wpAny_bind (wpAny_bind (tup_firsts e ht fun fs hf => wpAny_pure ?_))
          rw [if_neg (by rw [hall fs hf]; decide)]
          have h0 : (fs.toArray[0]?.bind id).isSome = false := by
            have : (fs.map Option.isSome)[0]? = some false := by rw [hf]; exact hb
            rw [List.getElem?_map] at this
            rw [List.getElem?_toArray]
            cases q : fs[0]? with
            | none => rfl
            | some o => rw [q] at this; cases o with
              | none => rfl
              | some v => cases this
          rw [if_neg (by rw [h0]; decide)]
          rw [PyProof.Rows.oneTypeOnly'_eq, List.mapM_toArray, map_eq_pure_bind]
          refine wpAny_bind (wpAny_bind (wpAny_bind (PySem.W.kas_mapM (r := Value.type "tuple") _ (fun v hv Q' hq => ?_) (wpAny_pure ?_))))
          · obtain ⟨d, hd, as, r⟩ := e.left v hv
            obtain ⟨xs, rfl⟩ := ht d hd
            exact (PySem.W.looks_reads r).here hq
          · have hal2 : ((List.map (fun _ => Value.type "tuple") vs).toArray.all fun x => x == Value.type "tuple") = true := by
              simp only [List.all_toArray, List.all_map, List.all_eq_true]
              intro _ _
              exact beq_self_eq_true _
            have h00 : (List.map (fun _ => Value.type "tuple") vs).toArray[0]? = some (Value.type "tuple") := by
              cases vs with
              | nil => simp at h2
              | cons v vs => simp
            rw [h00]
            simp only [hal2, if_true]
            exact wpAny_pure (wpAny_pure hq)
end
def SortT (ds : List PyData) : Prop := PySem.W.Sortable ds \/ ((∀ d ∈ ds, ∃ xs, d = .tuple xs) /\ ds.all headT = false)
section
variable {X : Cx} {pins : List (Addr × Obj)} {σ : St} {H : Hp} {s : Shared}
def SrcAt (K : KX) (H : Hp) (p : Addr) (ys : List V) : Prop := SqL K.K H p ys \/ SqT K.K H p ys \/ ∃ o xs, DNat K H p o xs /\ ys = xs.map fun x => V.ref x.2.1
theorem SrcAt.colls {p : Addr} {ys : List V} (hc : X.calm = true) (h : SrcAt X.kx H p ys) (I : Inv X pins σ H s) : ∃ us, Vals ys us /\ us.length <= sizeLine /\ Colls X.prog X.w X.A.in1 s p us := by
  rcases h with h | h | ⟨o, xs, d, rfl⟩
  · obtain ⟨its, r, pl, hz⟩ := I.list h
    obtain ⟨o, ho, hc, n, hd⟩ := pl.isList
    refine ⟨its, r, by rw [<- r.length]; exact hz, fun E Q q => wpAny_collect_seq p (.inl rfl) ho hc hd (fun h' k => ?_) (by rw [List.size_toArray, <- r.length]; exact hz)⟩
    have := q h' s.toks k
    rwa [show its.toArray.toList = its from rfl]
  · obtain ⟨its, r, pl, hz⟩ := I.tuple h
    obtain ⟨o, ho, hc, n, hd⟩ := pl
    refine ⟨its, r, by rw [<- r.length]; exact hz, fun E Q q => wpAny_collect_seq p (.inr rfl) ho hc hd (fun h' k => ?_) (by rw [List.size_toArray, <- r.length]; exact hz)⟩
    have := q h' s.toks k
    rwa [show its.toArray.toList = its from rfl]
  · obtain ⟨es, ep, hd, he⟩ := d.raw.ent
    obtain ⟨ho, _⟩ := I.hok p _ d.at_
    have hraw : s.heap.DictRaw p es ep := ⟨o, ho, d.raw.exact', hd⟩
    have hlen : es.size = xs.length := by rw [<- Array.length_toList, he, List.length_map]
    have hh : X.A.in1.handled = none := I.ok.hd hc
    have hvals : Vals (xs.map fun x => V.ref x.2.1) (xs.map fun x => Value.ref x.2.1) := by
      clear hlen he hraw d
      induction xs with
      | nil => exact .nil
      | cons x xs ih => exact .cons rfl ih
    refine ⟨xs.map fun x => Value.ref x.2.1, hvals, by rw [List.length_map]; exact d.raw.len, fun E Q q => ?_⟩
    refine PySem.W.kdu_collect (PySem.KdlSrc.rawDict (prog := X.prog) (w := X.w) (es := es) (ep := ep) d.raw.ns) hh hraw (by rw [hlen]; exact d.raw.len) fun h' tk acc hk hi => ?_
    have ea : acc.toList = xs.map fun x => Value.ref x.2.1 := by
      apply List.ext_getElem?
      intro j
      by_cases hj : j < acc.size
      · have h1 : acc[j]? = some acc[j] := Array.getElem?_eq_getElem hj
        obtain ⟨hje, hv⟩ := hi.2 j _ h1
        rw [Array.getElem?_toList, h1, hv]
        have h2 : es[j]? = some es[j] := Array.getElem?_eq_getElem hje
        rw [<- Array.getElem?_toList, he, List.getElem?_map] at h2
        rw [List.getElem?_map]
        cases hx : xs[j]? with
        | none => rw [hx] at h2; cases h2
        | some x => rw [hx] at h2; simp only [Option.map_some, Option.some.injEq] at h2 ⊢; rw [<- h2]; rfl
      · rw [List.getElem?_eq_none (by rw [Array.length_toList]; omega), List.getElem?_eq_none (by rw [List.length_map]; have := hi.1; omega)]
    rw [ea]
    exact q h' tk hk
def encB (b : V × D) : PyData := (toPy b.2).getD .none
def rSortD (K : KX) : List V -> Hp -> VK -> Prop := fun xs H Q => ∃ (p : Addr) (bs : List (V × D)), xs = [.ref p] /\ SrcAt K H p (bs.map Prod.fst) /\ (∀ b ∈ bs, Dp K.K H b.1 (encB b)) /\ PySem.W.AllAlike (bs.map encB) /\ SortT (bs.map encB) /\ (∀ b ∈ bs, (encB b).depth <= 16) /\
  ∀ q, H q = none -> Q (.ref q) (upd H q (.lst ((bs.mergeSort (PySem.W.dataLe false encB)).map Prod.fst)))
theorem each_of {α : Type} {f : α -> V} : ∀ {bs : List α} {us : List Value}, Vals (bs.map f) us -> PySem.W.EachIs (fun v b => RelV (f b) v) us bs
  | [], us, h => by rw [List.map_nil] at h; cases h; exact .nil
  | b :: bs, us, h => by
    rw [List.map_cons] at h
    cases h with
    | cons h1 h2 => exact .cons h1 (each_of h2)
theorem of_each {α : Type} {f : α -> V} : ∀ {bs : List α} {us : List Value}, PySem.W.EachIs (fun v b => RelV (f b) v) us bs -> Vals (bs.map f) us
  | _, _, .nil => .nil
  | _, _, .cons h t => .cons h (of_each t)
theorem cr_sortD (hc : X.calm = true) (hu : X.A.units + 65 < cLine) : CallR X (.builtin "sorted") (rSortD X.kx) := by
  intro pins s σ H xs us Q I r h
  obtain ⟨p, bs, rfl, hs, hdp, hal, hk, hdep, q⟩ := h
  obtain ⟨u, rfl, rx⟩ := vals1 r
  cases rx
  obtain ⟨vs, rv, hl, col⟩ := hs.colls hc I
  have e := each_of rv
  have er : PySem.W.EachIs (fun v b => ∃ as, Reads s.heap v (encB b) as) vs bs := (PySem.W.each_mem e).mono fun v b ⟨rb, hb⟩ => Dp.reads I _ _ _ (hdp b hb) rb
  refine sorted_coll (β := V × D) (R := fun v b => RelV b.1 v) (enc := encB) col hl e er hal (fun s' hk' => ?_) fun h1 h2 tk n out k1 k2 hg ho => ?_
  · have hdd : ∀ d, d ∈ bs.map encB -> X.A.in1.in1.units + d.depth < cLine := fun d hd => by
      obtain ⟨b, hb, rfl⟩ := List.mem_map.mp hd
      have := hdep b hb
      show X.A.units + 2 + _ < cLine
      omega
    have ee := PySem.W.each_map (R := fun v d => ∃ as, Reads s'.heap v d as) encB (er.mono fun v b ⟨as, q⟩ => ⟨as, PyProof.Rows.Reads.keeps hk' q⟩)
    rcases hk with hk | ⟨hk1, hk2⟩
    · exact PySem.W.SortsAt.data ee hal hk hdd
    · exact sortsAt_tups ee hal hk1 hk2 hdd
  · have I1 : Inv X pins σ H { s with heap := h1 } := I.kept (t' := s.toks) k1
    have rs := of_each ho
    have hlen : ((bs.mergeSort (PySem.W.dataLe false encB)).map Prod.fst).length <= sizeLine := by
      rw [List.length_map, List.length_mergeSort, <- List.length_map (f := Prod.fst), rv.length]
      exact hl
    refine ⟨.ref h1.objs.size, _, I1.laid (h' := h2) (t' := tk) k2 (Nat.le_refl _) (show ObjOk X.prog X.w _ h2 _ (.lst _) from ⟨hlen, out, n, rs, hg⟩), rfl, q _ (I1.hok.fresh (Nat.le_refl _))⟩
end
def insD (le : D -> D -> Bool) (x : D) : List D -> List D
  | [] => [x]
  | y :: ys => if le x y then x :: y :: ys else y :: insD le x ys
def isortD (le : D -> D -> Bool) : List D -> List D
  | [] => []
  | x :: xs => insD le x (isortD le xs)
def encD (d : D) : PyData := (toPy d).getD .none
def leD : D -> D -> Bool := PySem.W.dataLe false encD
section
variable {le : D -> D -> Bool}
theorem insD_mem {x y : D} : ∀ {l : List D}, y ∈ insD le x l -> y = x \/ y ∈ l
  | [], h => by rw [insD] at h; exact .inl (by simpa using h)
  | z :: zs, h => by
    rw [insD] at h
    split at h
    · rcases List.mem_cons.mp h with h | h
      · exact .inl h
      · exact .inr h
    · rcases List.mem_cons.mp h with h | h
      · exact .inr (by simp [h])
      · rcases insD_mem h with h | h
        · exact .inl h
        · exact .inr (by simp [h])
theorem insD_sorted (ht : PySem.W.TotalLe le) {x : D} : ∀ {l : List D}, l.Pairwise (fun a b => le a b = true) -> (insD le x l).Pairwise (fun a b => le a b = true)
  | [], _ => by rw [insD]; simp
  | z :: zs, h => by
    rw [insD]
    rw [List.pairwise_cons] at h
    split
    · next hx =>
      rw [List.pairwise_cons, List.pairwise_cons]
      refine ⟨fun a ha => ?_, h⟩
      rcases List.mem_cons.mp ha with rfl | ha
      · exact hx
      · exact ht.trans _ _ _ hx (h.1 a ha)
    · next hx =>
      rw [List.pairwise_cons]
      refine ⟨fun a ha => ?_, insD_sorted ht h.2⟩
      rcases insD_mem ha with rfl | ha
      · rcases ht.total a z with q | q
        · exact absurd q hx
        · exact q
      · exact h.1 a ha
theorem insD_filter (ht : PySem.W.TotalLe le) {x c : D} : ∀ {l : List D}, (insD le x l).filter (PySem.W.sameRank le c) = (x :: l).filter (PySem.W.sameRank le c)
  | [] => by rw [insD]
  | z :: zs => by
    rw [insD]
    split
    · rfl
    · next hx =>
      have hne : ¬ (PySem.W.sameRank le c x = true /\ PySem.W.sameRank le c z = true) := by
        rintro ⟨h1, h2⟩
        unfold PySem.W.sameRank at h1 h2
        rw [Bool.and_eq_true] at h1 h2
        exact hx (ht.trans _ _ _ h1.2 h2.1)
      have ih := insD_filter ht (x := x) (c := c) (l := zs)
      rw [List.filter_cons, ih]
      by_cases hz : PySem.W.sameRank le c z = true
      · have hxn : PySem.W.sameRank le c x = false := by
          cases q : PySem.W.sameRank le c x with
          | false => rfl
          | true => exact absurd ⟨q, hz⟩ hne
        simp [List.filter_cons, hz, hxn]
      · simp [List.filter_cons, hz]
theorem isortD_eq (ht : PySem.W.TotalLe le) (l : List D) : isortD le l = l.mergeSort le := by
  have h1 : (isortD le l).Pairwise (fun a b => le a b = true) := by
    induction l with
    | nil => exact .nil
    | cons x xs ih => exact insD_sorted ht ih
  have h2 : ∀ c, (isortD le l).filter (PySem.W.sameRank le c) = l.filter (PySem.W.sameRank le c) := by
    intro c
    clear h1
    induction l with
    | nil => rfl
    | cons x xs ih =>
      rw [isortD, insD_filter ht, List.filter_cons, List.filter_cons, ih]
  exact PySem.W.sort_unique ht h1 h2
end
def alikeB (ps : List PyData) : Bool := ps.all fun p => ps.all fun q => PySem.W.alike p q
def sortOkB (ps : List PyData) : Bool := (ps.all fun p => match p with | .tuple (_ :: _) => true | _ => false) || ((ps.all fun p => match p with | .none => false | .tuple _ => false | _ => true) || ps.all fun p => match p with | .tuple _ => true | _ => false)
def sortB (ds : List D) : Option (List D) := match toPys ds with
  | some ps => if alikeB ps && sortOkB ps && (ps.all fun p => decide (p.depth <= 16)) then some (isortD leD ds) else none
  | none => none
def keysOf : D -> Option (List D)
  | .lst ds => some ds
  | .tup ds => some ds
  | .dit ds => some (ds.map Prod.fst)
  | _ => none
def gSorted : List D -> Option D
  | [d] => match keysOf d with
    | some ds => (sortB ds).map .lst
    | none => none
  | _ => none
theorem toPys_map : ∀ {ds : List D} {ps : List PyData}, toPys ds = some ps -> ps = ds.map encD /\ ∀ d ∈ ds, toPy d = some (encD d)
  | [], ps, e => by cases e; exact ⟨rfl, fun d h => by cases h⟩
  | d :: ds, ps, e => by
    obtain ⟨p, ps', h1, h2, rfl⟩ := toPys_cons e
    obtain ⟨i1, i2⟩ := toPys_map h2
    have hd : encD d = p := by unfold encD; rw [h1]; rfl
    refine ⟨by rw [i1, List.map_cons, hd], fun x hx => ?_⟩
    rcases List.mem_cons.mp hx with rfl | hx
    · rw [hd]; exact h1
    · exact i2 x hx
section
variable {cls : Nat -> Addr} {own : Nat -> Bool} {K : KX} {G : Gh} {al : List Addr} {m : MS} {σ : St} {H : Hp}
theorem srcOf {x : V} {d : D} {ds : List D} (r : Rst K cls own G al m σ H) (h : CR K H (Zof G) al x d) (e : keysOf d = some ds) : ∃ p ys, x = .ref p /\ SrcAt K H p ys /\ DVs K (Zof G) al ys ds := by
  unfold keysOf at e
  split at e
  · cases e
    obtain ⟨a, us, rfl, h1, r1⟩ := h
    exact ⟨a, us, rfl, .inl (.inl (.inl h1)), r1⟩
  · cases e
    obtain ⟨a, us, rfl, h1, r1⟩ := h.tup
    exact ⟨a, us, rfl, .inr (.inl (Same.tupS r.zh h1)), r1⟩
  · cases e
    obtain ⟨a, o, xs, vs, rfl, h1, h2, h3, h4, h5, h6⟩ := h
    exact ⟨a, _, rfl, .inr (.inr ⟨o, xs, dnat_of r h1 h2 h3 h4, rfl⟩), h3⟩
  · cases e
theorem DVs.of_pairs {Z : Hp} : ∀ {bs : List (V × D)}, (∀ b ∈ bs, DV K Z al b.1 b.2) -> DVs K Z al (bs.map Prod.fst) (bs.map Prod.snd)
  | [], _ => .nil
  | b :: bs, h => .cons (h b (List.mem_cons_self ..)) (DVs.of_pairs fun x hx => h x (List.mem_cons_of_mem _ hx))
theorem ok_sorted : FnOkF K cls own (rSortD K) gSorted := by
  intro G al m σ H xs da d Q r hx e k
  unfold gSorted at e
  split at e
  case h_2 => cases e
  next d0 =>
  split at e
  case h_2 => cases e
  next ds e0 =>
  unfold sortB at e
  split at e
  case h_2 => cases e
  next ps e1 =>
  split at e
  case isFalse => cases e
  next hok =>
  cases e
  obtain ⟨x, rfl, hc⟩ := hx.one
  obtain ⟨p, ys, rfl, hsrc, dv⟩ := srcOf r hc e0
  rw [Bool.and_eq_true, Bool.and_eq_true] at hok
  obtain ⟨⟨hal, hso⟩, hdp⟩ := hok
  obtain ⟨hps, hpy⟩ := toPys_map e1
  obtain ⟨z1, z2, z3⟩ := dv.zip
  have henc : (ys.zip ds).map encB = ps := by
    rw [hps, <- z2, List.map_map, z2]
    rfl
  refine ⟨p, ys.zip ds, rfl, by rw [z1]; exact hsrc, fun b hb => ?_, ?_, ?_, fun b hb => ?_, fun q hq => ?_⟩
  · have hb2 : b.2 ∈ ds := by rw [<- z2]; exact List.mem_map.mpr ⟨b, hb, rfl⟩
    exact (z3 b hb).dp r.zh (hpy _ hb2)
  · rw [henc]
    intro d1 h1 d2 h2
    exact List.all_eq_true.mp (List.all_eq_true.mp hal d1 h1) d2 h2
  · rw [henc]
    unfold sortOkB at hso
    rw [Bool.or_eq_true, Bool.or_eq_true] at hso
    rcases hso with h | h | h
    · refine .inl (.inl fun d1 h1 => ?_)
      have := List.all_eq_true.mp h d1 h1
      split at this
      · exact ⟨_, _, rfl⟩
      · cases this
    · refine .inl (.inr fun d1 h1 => ?_)
      have := List.all_eq_true.mp h d1 h1
      refine ⟨fun z => ?_, fun xs z => ?_⟩ <;> (subst z; cases this)
    · have ht : ∀ d1 ∈ ps, ∃ xs, d1 = .tuple xs := fun d1 h1 => by
        have := List.all_eq_true.mp h d1 h1
        split at this
        · exact ⟨_, rfl⟩
        · cases this
      cases hh : ps.all headT with
      | false => exact .inr ⟨ht, hh⟩
      | true =>
        refine .inl (.inl fun d1 h1 => ?_)
        have h2 := List.all_eq_true.mp hh d1 h1
        obtain ⟨xs, rfl⟩ := ht d1 h1
        cases xs with
        | nil => cases h2
        | cons x r => exact ⟨x, r, rfl⟩
  · have hb2 : encB b ∈ ps := by rw [<- henc]; exact List.mem_map.mpr ⟨b, hb, rfl⟩
    exact of_decide_eq_true (List.all_eq_true.mp hdp _ hb2)
  · have hs : ((ys.zip ds).mergeSort (PySem.W.dataLe false encB)).map Prod.snd = isortD leD ds := by
      rw [isortD_eq (le := leD) (PySem.W.sortLe_total _ false _)]
      have hm := PySem.W.sort_maps (r := PySem.W.dataLe false encB) (s := leD) (l := ys.zip ds) Prod.snd (fun a _ b _ => rfl)
      rw [hm, z2]
    rw [<- hs] at k
    exact k.lst r (DVs.of_pairs fun b hb => z3 b ((List.mergeSort_perm _ _).mem_iff.mp hb)) hq
end
end MI
namespace MI
open PySem PySem.Spec L2
section
variable {cls : Nat -> Addr} {own : Nat -> Bool} {X : Cx} {a : Expr} {apos cpos npos : Pos} {fs : Den (List Hd)} {i : Nat} {x : Str}
theorem CO.dit {K : KX} {Z : Hp} {al : List Addr} {a : Addr} {o : HO} {ds : List (D × D)} (c : CO K Z al a o (.dit ds)) : ∃ (ob : Obj) (xs : XS) (vs : List V), o = hoN a ob /\ RawN K a ob xs /\ DVs K Z al (xs.map fun x => V.ref x.2.1) (ds.map Prod.fst) /\ toNKs (ds.map Prod.fst) = some (xs.map (·.1)) /\ Vals vs (xs.map (·.2.2)) /\ DVs K Z al vs (ds.map Prod.snd) := by
  cases o with
  | ext φ =>
    obtain ⟨ob, xs, vs, rfl, q⟩ := c
    exact ⟨ob, xs, vs, rfl, q⟩
  | _ => exact (show False from c).elim
end
end MI
namespace MI
open PySem PySem.Spec L2
def GC (K : KX) (mg : Str -> Option Value) (x : Str) (d : D) : Prop := ∃ v u, mg x = some u /\ RelV v u /\ DV K (fun _ => none) [] v d
theorem datB_ok {P : Program} {w : World} {K : PySem.W.Frag} : ∀ (n : Nat) (u : Value) (d : D), datB K n u d = true -> ∃ v, RelV v u /\ DV ⟨K, P, w⟩ (fun _ => none) [] v d := by
  intro n
  induction n with
  | zero =>
    intro u d h
    unfold datB at h
    split at h
    · next e => cases e
    · exact ⟨.non, rfl, .non⟩
    · next b c => rw [beq_iff_eq] at h; subst h; exact ⟨.bl b, rfl, .bl b⟩
    · next i t j => have := of_decide_eq_true h; subst this; exact ⟨.int i, ⟨t, rfl⟩, .int i⟩
    · next x t y => have := of_decide_eq_true h; subst this; exact ⟨.str x, ⟨t, rfl⟩, .str x⟩
    · cases h
  | succ n ih =>
    intro u d h
    unfold datB at h
    split at h
    · next k a ds e =>
      cases e
      split at h
      · next c its m sl q =>
        simp only [Bool.and_eq_true, decide_eq_true_eq] at h
        obtain ⟨h1, h2, h3, h4⟩ := h
        have key : ∀ (us : List Value) (ds : List D), us.length = ds.length -> ((us.zip ds).all fun p => datB K n p.1 p.2) = true -> ∃ vs, Vals vs us /\ DVs ⟨K, P, w⟩ (fun _ => none) [] vs ds := by
          intro us
          induction us with
          | nil => intro ds hl _; cases ds with
            | nil => exact ⟨[], .nil, .nil⟩
            | cons _ _ => cases hl
          | cons u us ihu => intro ds hl ha; cases ds with
            | nil => cases hl
            | cons d ds =>
              rw [List.zip_cons_cons, List.all_cons, Bool.and_eq_true] at ha
              obtain ⟨v, r1, r2⟩ := ih _ _ ha.1
              obtain ⟨vs, r3, r4⟩ := ihu ds (by simpa using hl) ha.2
              exact ⟨v :: vs, .cons r1 r3, .cons r2 r4⟩
        obtain ⟨vs, r1, r2⟩ := key _ _ h3 h4
        exact ⟨.ref a, rfl, .tup (.inr ⟨_, its, m, rfl, q, congrArg Value.type h1, rfl, h2, r1⟩) r2⟩
      · cases h
    · exact ⟨.non, rfl, .non⟩
    · next b c => rw [beq_iff_eq] at h; subst h; exact ⟨.bl b, rfl, .bl b⟩
    · next i t j => have := of_decide_eq_true h; subst this; exact ⟨.int i, ⟨t, rfl⟩, .int i⟩
    · next x t y => have := of_decide_eq_true h; subst this; exact ⟨.str x, ⟨t, rfl⟩, .str x⟩
    · cases h
theorem gc_ok {P : Program} {w : World} {K : PySem.W.Frag} {h : Heap} {mg : Str -> Option Value} {gc : List (Str × D)} (X : K.In h) (G : h.Ns mainGlobals mg) (c : gcB gc K = true) (i : Nat) {x : Str} {d : D} (hq : gc[i]? = some (x, d) := by rfl) : GC ⟨K, P, w⟩ mg x d := by
  have := List.all_eq_true.mp c _ (List.mem_of_getElem? hq)
  split at this
  · next u e =>
    obtain ⟨v, r1, r2⟩ := datB_ok (P := P) (w := w) 8 u d this
    exact ⟨v, u, PySem.W.mg_of X G e, r1, r2⟩
  · cases this
section
variable {cls : Nat -> Addr} {own : Nat -> Bool} {X : Cx} {pos : Pos} {i : Nat} {x : Str} {d : D}
theorem xv (hN : X.N[i]? = some x := by rfl) (hv : Vis X.env.scope x := by first | exact .inl rfl | exact .inr (.inl rfl) | exact .inr (.inr rfl)) (ho : own i = false := by rfl) (hd : (x == ("__debug__" : Str)) = false := by decide) (hcd : (x == ("__classdict__" : Str)) = false := by decide) :
    SE cls own X (.Name x pos) (eVar i) := se_var hN hv ho hd hcd
theorem xg (g : GC X.kx X.mg x d) (hg : Gl X x := by rfl) (hdb : (x == ("__debug__" : Str)) = false := by decide) : SE cls own X (.Name x pos) (eC d) := by
  obtain ⟨v, u, h1, h2, h3⟩ := g
  exact se_glob hg h1 h2 h3 hdb
end
theorem bt_len : bootBuiltins "len" = some (.builtin "len") := by decide +kernel
theorem bt_sorted : bootBuiltins "sorted" = some (.builtin "sorted") := by decide +kernel
theorem bt_all : bootBuiltins "all" = some (.builtin "all") := by decide +kernel
theorem bt_abs : bootBuiltins "abs" = some (.builtin "abs") := by decide +kernel
theorem bt_max : bootBuiltins "max" = some (.builtin "max") := by decide +kernel
theorem bt_min : bootBuiltins "min" = some (.builtin "min") := by decide +kernel
theorem bt_int : bootBuiltins "int" = some (.type "int") := by decide +kernel
theorem bt_tuple : bootBuiltins "tuple" = some (.type "tuple") := by decide +kernel
structure DefOk (P : Program) (w : World) (K : PySem.W.Frag) (mg : Str -> Option Value) (base : Heap) (cls : Nat -> Addr) (k : Nat) (x : Str) (f : Addr) (fd : FuncData) (ps : List Str) (fn : Fn) : Prop where
  ok : FnOk P w K mg base CX0 k f fd ps (SpD ⟨K, P, w⟩ cls ps.length fn)
  gl : mg x = some (.ref f)
  kp : PySem.W.keepIn K (.ref f) = true
section
variable {cls : Nat -> Addr} {own : Nat -> Bool} {X : Cx} {k j n : Nat} {f : Addr} {fd : FuncData} {ps ks : List Str} {fn : Fn} {x : Str} {p pos : Pos} {e : Expr} {es : List Expr} {fs fk : Den (List Hd)} {kws : List Keyword} {sp : List Src} {dvs : List V} {dds : List D} {mv : List Value}
theorem xc (F : DefOk X.prog X.w X.K X.mg X.base cls j x f fd ps fn) (hr : Room k X.A) (hb : KBn X.K fd ps n ks (fun us ws => arr sp us mv ws) (fun vs zs => arr sp vs dvs zs))
    (hdd : DVs X.kx (fun _ => none) [] dvs dds) (ha : SHs cls own X (e :: es) fs) (hkw : SKs cls own X kws fk) (hnp : ∀ vs zs : List V, vs.length = n -> zs.length = ks.length -> (arr sp vs dvs zs).length = ps.length) (hl1 : ∀ m hs m', fs m = .ok hs m' -> hs.length = n) (hl2 : ∀ m hs m', fk m = .ok hs m' -> hs.length = ks.length)
    (hjk : j <= k := by decide) (hg : Gl X x := by rfl)
    (hall : (backToKw pos (keywordEach kws X.env)).all (·.1.isSome) = true := by rfl) (hks : (backToKw pos (keywordEach kws X.env)).filterMap (·.1) = ks := by rfl)
    (hdb : (x == ("__debug__" : Str)) = false := by decide) (he : starEach (e :: es) X.env = (false, eval e X.env) :: starEach es X.env := by rfl)
    (hpl : ((backTo pos (starEach (e :: es) X.env)).any (·.1) || (backToKw pos (keywordEach kws X.env)).any (·.1.isNone)) = false := by rfl) :
    SE cls own X (.Call (.Name x p) (e :: es) kws pos) (eCallK fn sp dds (aVals fs) (aVals fk)) := se_callK F.ok (hr.mono hjk) hg F.gl F.kp hb hdd ha hkw hnp hl1 hl2 hall hks hdb he hpl
end
end MI
namespace MI
open PySem PySem.Spec L2
theorem law_start {K : PySem.W.Frag} {P : Program} {w : World} {cls : Nat -> Addr} {H : Hp} {a : Addr} {ns : List Int} {fn : Fn} {E : XK} (hS : SqL K H a (ns.map V.int)) (h : ∃ st, fn [.scr ns] [] = some (.bl true, st)) :
    SpD ⟨K, P, w⟩ cls 1 fn [.ref a] H (fun v _ => v = .bl true) E := by
  obtain ⟨st, h⟩ := h
  let G : Gh := fun b => if b = a then (H a).map fun o => (.frz, o) else none
  have hz : Zof G a = H a := by
    show (match (if a = a then (H a).map fun o => (Tag.frz, o) else none) with
      | some (.frz, o) => some o
      | _ => none) = H a
    rw [if_pos rfl]
    cases H a <;> rfl
  refine ⟨rfl, G, [], [.scr ns], [], .bl true, st, ⟨fun b t o e => ?_, rfl, fun n o e => by simp at e⟩, .cons (.scr ?_) .nil, h, fun G' al' v H' _ _ dv => by cases dv; rfl⟩
  · have e : (if b = a then (H a).map fun o => (Tag.frz, o) else none) = some (t, o) := e
    split at e
    · next hb =>
      subst hb
      cases q : H b with
      | none => rw [q] at e; cases e
      | some u => rw [q] at e; cases e; rfl
    · cases e
  · rcases hS with (h | ⟨u, h⟩) | h
    · exact .inl (.inl (hz.trans h))
    · exact .inl (.inr ⟨u, hz.trans h⟩)
    · exact .inr h
end MI
namespace MI
open PySem PySem.Spec L2
section
variable {K : KX} {cls : Nat -> Addr} {own : Nat -> Bool} {G : Gh} {al : List Addr} {m : MS} {σ : St} {H : Hp}
theorem Rst.share {p : Addr} {o : HO} {ob : O} (r : Rst K cls own G al m σ H) (hp : H p = some o) (hn : G p = none) (c : OO K cls (Zof G) al p o ob) :
    Ev G al (putG G p (.st m.st.length) o) (al ++ [p]) /\ Rst K cls own (putG G p (.st m.st.length) o) (al ++ [p]) { m with st := m.st ++ [ob] } σ H := by
  have ne : ∀ {b x}, G b = some x -> b ≠ p := fun e z => by subst z; rw [hn] at e; cases e
  have ev : Ev G al (putG G p (.st m.st.length) o) (al ++ [p]) := ⟨fun a o e => by rw [putG_ne (ne e)]; exact e, fun a o e => by rw [putG_ne (ne e)]; exact e, List.prefix_append _ _⟩
  refine ⟨ev, ⟨fun b t u e => ?_, ?_, fun n ob2 e hg => ?_⟩, r.len, fun i d e ho => ?_, fun i d e ho => ?_⟩
  · by_cases hb : b = p
    · subst hb; rw [putG_same] at e; cases e; exact hp
    · rw [putG_ne hb] at e; exact r.hst.gh b t u e
  · rw [List.length_append, List.length_append, r.hst.len]; rfl
  · by_cases hlt : n < m.st.length
    · rw [List.getElem?_append_left hlt] at e
      obtain ⟨b, q1, o1, e1, r1⟩ := r.hst.sto n ob2 e hg
      exact ⟨b, by rw [List.getElem?_append_left (by rw [r.hst.len]; exact hlt)]; exact q1, o1, by rw [putG_ne (ne e1)]; exact e1, r1.mono ev.same ev.al⟩
    · rw [List.getElem?_append_right (by omega)] at e
      have hnn : n - m.st.length = 0 := by
        cases h0 : n - m.st.length with
        | zero => rfl
        | succ j => rw [h0] at e; simp at e
      rw [hnn] at e
      have e : some ob = some ob2 := e
      cases e
      have hnl : n = m.st.length := by omega
      subst hnl
      exact ⟨p, by rw [<- r.hst.len, List.getElem?_append_right (Nat.le_refl _)]; simp, o, putG_same, c.mono ev.same ev.al⟩
  · obtain ⟨v, h1, h2⟩ := r.val i d e ho
    exact ⟨v, h1, h2.ev ev⟩
  · obtain ⟨a, ob3, h1, h2, h3⟩ := r.own i d e ho
    exact ⟨a, ob3, h1, by rw [putG_ne (ne h2)]; exact h2, h3.mono ev.same ev.al⟩
theorem Rst.stw {n : Nat} {a : Addr} {o o' : HO} {ob ob' : O} (r : Rst K cls own G al m σ H) (hn : m.st[n]? = some ob) (ha : al[n]? = some a) (hg : G a = some (.st n, o)) (c : OO K cls (Zof G) al a o' ob') :
    Ev G al (putG G a (.st n) o') al /\ Rst K cls own (putG G a (.st n) o') al { m with st := m.st.set n ob' } σ (upd H a o') := by
  have ne : ∀ {b t u}, G b = some (t, u) -> t ≠ .st n -> b ≠ a := fun e h z => by subst z; rw [hg] at e; cases e; exact h rfl
  have ev : Ev G al (putG G a (.st n) o') al := ⟨fun b u e => by rw [putG_ne (ne e (by intro z; cases z))]; exact e, fun b u e => by rw [putG_ne (ne e (by intro z; cases z))]; exact e, List.prefix_refl _⟩
  refine ⟨ev, ⟨fun b t u e => ?_, by rw [List.length_set]; exact r.hst.len, fun k ob2 e hg => ?_⟩, r.len, fun i d e ho => ?_, fun i d e ho => ?_⟩
  · by_cases hb : b = a
    · subst hb; rw [putG_same] at e; cases e; exact upd_same
    · rw [putG_ne hb] at e; rw [upd_ne hb]; exact r.hst.gh b t u e
  · by_cases hk : k = n
    · subst hk
      rw [List.getElem?_set_self (List.getElem?_eq_some_iff.mp hn).1] at e
      cases e
      exact ⟨a, ha, o', putG_same, c.mono ev.same ev.al⟩
    · rw [List.getElem?_set_ne (Ne.symm hk)] at e
      obtain ⟨b, q1, o1, e1, r1⟩ := r.hst.sto k ob2 e hg
      exact ⟨b, q1, o1, by rw [putG_ne (ne e1 (by intro z; cases z; exact hk rfl))]; exact e1, r1.mono ev.same ev.al⟩
  · obtain ⟨v, h1, h2⟩ := r.val i d e ho
    exact ⟨v, h1, h2.ev ev⟩
  · obtain ⟨b, ob3, h1, h2, h3⟩ := r.own i d e ho
    exact ⟨b, ob3, h1, by rw [putG_ne (ne h2 (by intro z; cases z))]; exact h2, h3.mono ev.same ev.al⟩
end
def eShare (f : Den D) : Den D := f.bind fun d => fun m => match d with
  | .lst ds => .ok (.obj m.st.length) { m with st := m.st ++ [.lst ds] }
  | _ => .bad
def sPutO (fo : Den D) (fk : Den Hd) (fv : Den D) : Den Fl := fv.bind fun v => fo.bind fun o => fk.bind fun hk => fun m => match o with
  | .obj n => match m.st[n]?, look hk m with
    | some (.lst ds), some k => match gSet (.lst ds) k v with
      | some (.lst ds') => .ok .nx { m with st := m.st.set n (.lst ds') }
      | _ => .bad
    | _, _ => .bad
  | _ => .bad
section
variable {cls : Nat -> Addr} {own : Nat -> Bool} {X : Cx} {a b c : Expr} {fk : Den Hd} {fo fv : Den D} {pos ps npos : Pos} {i : Nat} {x : Str}
theorem se_share {f : Den D} (h : SF cls own X a f) : SE cls own X a (eShare f) := by
  refine pe_imp h fun σ H Q q => ?_
  obtain ⟨G, al, m, d, m', r, e, k⟩ := q
  obtain ⟨d0, m1, e1, e⟩ := bind_ok e
  split at e
  case h_2 => cases e
  next ds =>
  cases e
  refine ⟨G, al, m, _, m1, r, e1, fun G1 al1 p o H1 ev1 r1 hp hn c => ?_⟩
  obtain ⟨xs, rfl, c1⟩ := c.lst
  obtain ⟨ev2, r2⟩ := r1.share (ob := .lst ds) hp hn ⟨xs, rfl, c1⟩
  exact k _ _ _ _ (ev1.trans ev2) r2 (.obj (by rw [<- r1.hst.len, List.getElem?_append_right (Nat.le_refl _)]; simp))
theorem ss_putO (hu : X.A.units + 65 < cLine) (ho : SE cls own X c fo) (hk : SH cls own X b fk) (hv : SE cls own X a fv)
    (hs : swapsWithSole [.Subscript c b ps] a pos.line X.env = pure false := by rfl) (hw : swappedStores [.Subscript c b ps] a X.env = pure none := by rfl)
    (ha : ∀ z, assign (.Subscript c b ps) X.env z = (holding [z] (eval c X.env) >>= fun o => holding [z, o] (eval b X.env) >>= fun j => standAt ps >>= fun _ => holding [z, o, j] (setItem o j z) >>= fun _ => release [z, o, j] []) := by intro _; rfl) :
    SS cls own X (.Assign [.Subscript c b ps] a pos) (sPutO fo fk fv) := by
  refine ps_imp (ps_asg hv (pg_sub ho hk (set_A hu) ha) hs hw) fun E σ H q => ?_
  obtain ⟨G, al, m, fl, m', r, e, k⟩ := q
  obtain ⟨v, m1, e1, e⟩ := bind_ok e
  obtain ⟨o, m2, e2, e⟩ := bind_ok e
  obtain ⟨hh, m3, e3, e⟩ := bind_ok e
  split at e
  case h_2 => cases e
  rename_i n _
  split at e
  case h_2 => cases e
  next ds dk e4 l4 =>
  split at e
  case h_2 => cases e
  next ds' e5 =>
  cases e
  refine ⟨G, al, m, v, m1, r, e1, fun G1 al1 vv H1 ev1 r1 dv => ⟨G1, al1, m1, _, m2, r1, e2, fun G2 al2 ov H2 ev2 r2 dvo => ⟨G2, al2, m2, hh, m3, r2, e3, fun G3 al3 y H3 ev3 r3 hy => ?_⟩⟩⟩
  have dvo' := dvo.ev ev3
  cases dvo' with
  | obj hal =>
    obtain ⟨a', h1, o1, h2, xs, rfl, h3⟩ := r3.hst.sto n _ e4
    rw [hal] at h1; cases h1
    refine ok_set r3 (r3.hst.gh _ _ _ h2) (d := .lst ds) (show CO X.kx (Zof G3) al3 _ (.lst xs) (.lst ds) from h3) (look_cr r3 hy l4) ((dv.ev ev2).ev ev3) e5 fun o' c' => ?_
    obtain ⟨xs', rfl, c2⟩ := c'.lst
    obtain ⟨ev4, r4⟩ := r3.stw (ob' := .lst ds') e4 hal h2 ⟨xs', rfl, c2⟩
    exact k _ al3 σ _ (((ev1.trans ev2).trans ev3).trans ev4) r4
end
end MI
namespace MI
open PySem PySem.Spec L2
def Off (p : Addr) : List Bool -> List V -> Prop
  | true :: ks, v :: vs => v ≠ .ref p /\ Off p ks vs
  | false :: ks, _ :: vs => Off p ks vs
  | _, _ => True
def Apart : List Bool -> List V -> Prop
  | true :: ks, .ref p :: vs => Off p ks vs /\ Apart ks vs
  | _ :: ks, _ :: vs => Apart ks vs
  | _, _ => True
def tMx (K : KX) (cls : Nat -> Addr) (own : Nat -> Bool) (ks : List Bool) (f : Den (List D)) : TA := fun σ H Q => ∃ G al m ds m', Rst K cls own G al m σ H /\ f m = .ok ds m' /\
  ∀ G' al' vs H', Ev G al G' al' -> Rst K cls own G' al' m' σ H' -> MxVs K G G' al' ks vs ds -> Apart ks vs -> Q vs H'
abbrev SMs (cls : Nat -> Addr) (own : Nat -> Bool) (X : Cx) (es : List Expr) (ks : List Bool) (f : Den (List D)) : Prop := PA X es (tMx X.kx cls own ks f)
def mNil : Den (List D) := .ret []
def mCons (f : Den D) (r : Den (List D)) : Den (List D) := f.bind fun d => r.bind fun ds => .ret (d :: ds)
section
variable {K : KX} {cls : Nat -> Addr} {own : Nat -> Bool} {G0 G1 G : Gh} {al : List Addr}
theorem MxVs.base {ks : List Bool} {vs : List V} {ds : List D} (h : MxVs K G1 G al ks vs ds) (b : ∀ p u, G0 p = some (.frm, u) -> G1 p = some (.frm, u)) : MxVs K G0 G al ks vs ds := by
  induction h with
  | nil => exact .nil
  | val h _ ih => exact .val h ih
  | new h1 h2 h3 _ ih => exact .new h1 (fun u e => h2 u (b _ _ e)) h3 ih
theorem MxVs.off {p : Addr} {o : HO} {ks : List Bool} {vs : List V} {ds : List D} (h : MxVs K G1 G al ks vs ds) (hp : G1 p = some (.frm, o)) : Off p ks vs := by
  induction h with
  | nil => exact True.intro
  | val _ _ ih => exact ih
  | new h1 h2 h3 _ ih => exact ⟨fun e => by cases e; exact h2 _ hp, ih⟩
variable {X : Cx} {e : Expr} {es : List Expr} {ks : List Bool} {fe : Den D} {fr : Den (List D)}
theorem sm_nil : SMs cls own X [] [] mNil := pa_imp pa_nil fun σ H Q ⟨G, al, m, d, m', r, e, k⟩ => by cases e; exact k G al _ H .refl r .nil True.intro
theorem sm_val (h : SE cls own X e fe) (hr : SMs cls own X es ks fr) (hs : starEach (e :: es) X.env = (false, eval e X.env) :: starEach es X.env := by rfl) : SMs cls own X (e :: es) (false :: ks) (mCons fe fr) := by
  refine pa_imp (pa_cons h hr hs) fun σ H Q q => ?_
  obtain ⟨G, al, m, d, m', r, e, k⟩ := q
  obtain ⟨d0, m1, e1, e2⟩ := bind_ok e
  obtain ⟨ds, m2, e3, e4⟩ := bind_ok e2
  cases e4
  refine ⟨G, al, m, d0, m1, r, e1, fun G1 al1 v H1 ev1 r1 dv => ?_⟩
  refine ⟨G1, al1, m1, ds, _, r1, e3, fun G2 al2 vs H2 ev2 r2 mx ap => k G2 al2 _ H2 (ev1.trans ev2) r2 (.val (dv.ev ev2) (mx.base fun p u z => ev1.frm p u z)) ?_⟩
  exact ap
theorem sm_new (h : SF cls own X e fe) (hr : SMs cls own X es ks fr) (hs : starEach (e :: es) X.env = (false, eval e X.env) :: starEach es X.env := by rfl) : SMs cls own X (e :: es) (true :: ks) (mCons fe fr) := by
  refine pa_imp (pa_cons h hr hs) fun σ H Q q => ?_
  obtain ⟨G, al, m, d, m', r, e, k⟩ := q
  obtain ⟨d0, m1, e1, e2⟩ := bind_ok e
  obtain ⟨ds, m2, e3, e4⟩ := bind_ok e2
  cases e4
  refine ⟨G, al, m, d0, m1, r, e1, fun G1 al1 p o H1 ev1 r1 hp hn c => ?_⟩
  have ev2 : Ev G1 al1 (putG G1 p .frm o) al1 := ev_put hn
  refine ⟨putG G1 p .frm o, al1, m1, ds, _, r1.tag hn hp, e3, fun G2 al2 vs H2 ev3 r2 mx ap => k G2 al2 _ H2 ((ev1.trans ev2).trans ev3) r2 (.new (ev3.frm _ _ putG_same) (fun u z => ?_) ?_ (mx.base fun q u z => ?_)) ⟨mx.off putG_same, ap⟩⟩
  · rw [ev1.frm _ _ z] at hn; cases hn
  · exact (c.mono ev2.same ev2.al).mono ev3.same ev3.al
  · exact ev2.frm _ _ (ev1.frm _ _ z)
end
def setD : List (Option D) -> List Nat -> List D -> List (Option D)
  | sl, i :: is, d :: ds => setD (sl.set i (some d)) is ds
  | sl, _, _ => sl
def setV : St -> List Nat -> List V -> St
  | σ, i :: is, v :: vs => setV (σ.set i (some v)) is vs
  | σ, _, _ => σ
section
variable {K : KX} {cls : Nat -> Addr} {own : Nat -> Bool} {G0 : Gh} {al0 : List Addr}
theorem MxVs.retag {p : Addr} {o : HO} {i : Nat} {G : Gh} {al : List Addr} (hp : G p = some (.frm, o)) : ∀ {ks : List Bool} {vs : List V} {ds : List D}, MxVs K G0 G al ks vs ds -> Off p ks vs -> Zof (putG G p (.slot i) o) = Zof G -> MxVs K G0 (putG G p (.slot i) o) al ks vs ds
  | _, _, _, .nil, _, _ => .nil
  | _, _, _, .val h t, off, hz => .val (by rw [hz]; exact h) (MxVs.retag hp t off hz)
  | _, _, _, .new (p := q) h1 h2 h3 t, off, hz => .new (by rw [putG_ne (fun e => off.1 (by rw [e]))]; exact h1) h2 (by rw [hz]; exact h3) (MxVs.retag hp t off.2 hz)
theorem Rst.toSlot {p : Addr} {o : HO} {d : D} {i : Nat} {G : Gh} {al : List Addr} {m : MS} {σ : St} {H : Hp} (r : Rst K cls own G al m σ H) (hp : G p = some (.frm, o)) (c : CO K (Zof G) al p o d) (ho : own i = true) :
    Rst K cls own (putG G p (.slot i) o) al { m with sl := m.sl.set i (some d) } (σ.set i (some (.ref p))) H /\ Zof (putG G p (.slot i) o) = Zof G := by
  obtain ⟨r1, hz1⟩ := r.unframe hp
  have hput : putG (delG G p) p (.slot i) o = putG G p (.slot i) o := by
    funext b
    by_cases e : b = p
    · subst e; rw [putG_same, putG_same]
    · rw [putG_ne e, putG_ne e, delG_ne e]
  have hz : Zof (putG G p (.slot i) o) = Zof G := by
    funext b
    unfold Zof
    by_cases e : b = p
    · subst e; rw [putG_same, hp]
    · rw [putG_ne e]
  have r2 := r1.setOwn (i := i) (r.hst.gh _ _ _ hp) delG_same (by rw [hz1]; exact c) ho
  rw [hput] at r2
  exact ⟨r2, hz⟩
theorem Rst.setMx : ∀ {is : List Nat} {ks : List Bool} {vs : List V} {ds : List D} {G : Gh} {al : List Addr} {m : MS} {σ : St} {H : Hp}, Rst K cls own G al m σ H -> Ev G0 al0 G al -> MxVs K G0 G al ks vs ds -> Apart ks vs -> is.map own = ks ->
    ∃ G', Ev G0 al0 G' al /\ Rst K cls own G' al { m with sl := setD m.sl is ds } (setV σ is vs) H
  | [], _, _, _, G, al, m, σ, H, r, ev, .nil, _, _ => ⟨G, ev, r⟩
  | [], _, _, _, G, al, m, σ, H, r, ev, .val _ _, _, e => by cases e
  | [], _, _, _, G, al, m, σ, H, r, ev, .new _ _ _ _, _, e => by cases e
  | i :: is, _, _, _, G, al, m, σ, H, r, ev, .nil, _, e => by cases e
  | i :: is, _, _, _, G, al, m, σ, H, r, ev, .val h t, ap, e => by
    have e : own i :: is.map own = false :: _ := e
    injection e with e1 e2
    have q := Rst.setMx (is := is) (r.set h e1) ev t ap e2
    exact q
  | i :: is, _, _, _, G, al, m, σ, H, r, ev, .new (p := p) h1 h2 h3 t, ap, e => by
    have e : own i :: is.map own = true :: _ := e
    injection e with e1 e2
    obtain ⟨r2, hz⟩ := r.toSlot h1 h3 e1
    have q := Rst.setMx (is := is) r2 ⟨fun b u z => by rw [putG_ne (by intro q; subst q; rw [ev.frz _ _ z] at h1; cases h1)]; exact ev.frz _ _ z,
      fun b u z => by rw [putG_ne (by intro q; subst q; exact h2 _ z)]; exact ev.frm _ _ z, ev.al⟩ (MxVs.retag h1 t ap.1 hz) ap.2 e2
    exact q
end
def sMulti (is : List Nat) (f : Den (List D)) : Den Fl := f.bind fun ds => fun m => if ds.length = is.length then .ok .nx { m with sl := setD m.sl is ds } else .bad
section
variable {cls : Nat -> Addr} {own : Nat -> Bool} {X : Cx} {a b c : Expr} {es ts : List Expr} {fs : Den (List D)} {ks : List Bool} {px py pz pt pos : Pos} {kt k2 : Nat} {pt2 : Pos} {i j l : Nat} {x y z : Str} {is : List Nat}
theorem ss_parM (hks : [i, j].map own = ks) (hc : X.calm = true) (hN : X.N.Nodup) (hi : X.N[i]? = some x) (hj : X.N[j]? = some y) (hij : i ≠ j)
    (hx : X.env.scope.names.lookup x = some .local) (hy : X.env.scope.names.lookup y = some .local) (ha : SMs cls own X [a, b] ks fs)
    (hw : swappedStores [.Tuple [.Name x px, .Name y py] kt pt] (.Tuple [a, b] k2 pt2) X.env = pure (some [x, y]))
    (hs : swapsWithSole [.Tuple [.Name x px, .Name y py] kt pt] (.Tuple [a, b] k2 pt2) pos.line X.env = pure false := by rfl) :
    SS cls own X (.Assign [.Tuple [.Name x px, .Name y py] kt pt] (.Tuple [a, b] k2 pt2) pos) (sMulti [i, j] fs) := by
  refine ps_imp (ps_par hc hN hi hj hij hx hy ha hw hs) fun E σ H q => ?_
  obtain ⟨G, al, m, fl, m', r, e, k⟩ := q
  obtain ⟨ds, m1, e1, e⟩ := bind_ok e
  split at e
  case isFalse => cases e
  next hl =>
  cases e
  refine ⟨G, al, m, ds, m1, r, e1, fun G1 al1 vs H1 ev1 r1 mx ap => ?_⟩
  obtain ⟨G2, ev2, r2⟩ := r1.setMx ev1 mx ap hks
  have hv := mx.length
  match vs, hv.trans hl with
  | [v, w], _ => exact ⟨v, w, rfl, k G2 al1 _ H1 ev2 r2⟩
theorem ss_parM3 (hks : [i, j, l].map own = ks) (hc : X.calm = true) (hN : X.N.Nodup) (hi : X.N[i]? = some x) (hj : X.N[j]? = some y) (hl : X.N[l]? = some z) (hij : i ≠ j) (hil : i ≠ l) (hjl : j ≠ l)
    (hx : X.env.scope.names.lookup x = some .local) (hy : X.env.scope.names.lookup y = some .local) (hz : X.env.scope.names.lookup z = some .local) (ha : SMs cls own X [a, b, c] ks fs)
    (hw : swappedStores [.Tuple [.Name x px, .Name y py, .Name z pz] kt pt] (.Tuple [a, b, c] k2 pt2) X.env = pure (some [x, y, z]))
    (hs : swapsWithSole [.Tuple [.Name x px, .Name y py, .Name z pz] kt pt] (.Tuple [a, b, c] k2 pt2) pos.line X.env = pure false := by rfl) :
    SS cls own X (.Assign [.Tuple [.Name x px, .Name y py, .Name z pz] kt pt] (.Tuple [a, b, c] k2 pt2) pos) (sMulti [i, j, l] fs) := by
  refine ps_imp (ps_par3 hc hN hi hj hl hij hil hjl hx hy hz ha hw hs) fun E σ H q => ?_
  obtain ⟨G, al, m, fl, m', r, e, k⟩ := q
  obtain ⟨ds, m1, e1, e⟩ := bind_ok e
  split at e
  case isFalse => cases e
  next hl =>
  cases e
  refine ⟨G, al, m, ds, m1, r, e1, fun G1 al1 vs H1 ev1 r1 mx ap => ?_⟩
  obtain ⟨G2, ev2, r2⟩ := r1.setMx ev1 mx ap hks
  have hv := mx.length
  match vs, hv.trans hl with
  | [u, v, w], _ => exact ⟨u, v, w, rfl, k G2 al1 _ H1 ev2 r2⟩
def gNames : List Nat -> TGs
  | [] => gNil
  | i :: is => gCons (gName i) (gNames is)
theorem gNames_of {Q : St -> Hp -> Prop} {H : Hp} : ∀ {is : List Nat} {vs : List V} {σ : St}, vs.length = is.length -> Q (setV σ is vs) H -> gNames is vs σ H Q
  | [], [], _, _, h => ⟨rfl, h⟩
  | [], _ :: _, _, e, _ => by cases e
  | _ :: _, [], _, e, _ => by cases e
  | i :: is, v :: vs, σ, e, h => ⟨v, vs, rfl, gNames_of (by simpa using e) h⟩
theorem ss_asgM {n : Nat} (hks : is.map own = ks) (hc : X.calm = true) (hg : PGs X ts (gNames is)) (ha : SMs cls own X es ks fs) (hn : is.length = n) (hfit : is.length <= 1000)
    (hs : swapsWithSole [.Tuple ts kt pt] (.Tuple es k2 pt2) pos.line X.env = pure false := by rfl) (hw : swappedStores [.Tuple ts kt pt] (.Tuple es k2 pt2) X.env = pure none := by rfl)
    (h1 : (assignEach [.Tuple ts kt pt] X.env).map (·.2) = [assign (.Tuple ts kt pt) X.env] := by rfl)
    (hnn : (assignEach ts X.env).length = n := by rfl) (hst : (assignEach ts X.env).findIdx? (·.1) = none := by rfl) :
    SS cls own X (.Assign [.Tuple ts kt pt] (.Tuple es k2 pt2) pos) (sMulti is fs) := by
  refine ps_imp (ps_asg (pe_tup ha) (pg_tup hc hg hnn hst) hs hw h1) fun E σ H q => ?_
  obtain ⟨G, al, m, fl, m', r, e, k⟩ := q
  obtain ⟨ds, m1, e1, e⟩ := bind_ok e
  split at e
  case isFalse => cases e
  next hl =>
  cases e
  refine ⟨G, al, m, ds, m1, r, e1, fun G1 al1 vs H1 ev1 r1 mx ap => ⟨?_, fun p hp => ?_⟩⟩
  · rw [mx.length, hl, sizeLine_eq]; omega
  · obtain ⟨G2, ev2, r2⟩ := (r1.fresh (o := .tup vs) hp).setMx ev1 mx ap hks
    exact ⟨p, vs, rfl, .inl (.inl upd_same), by rw [mx.length, hl, hn], gNames_of (by rw [mx.length, hl]) (k G2 al1 _ _ ev2 r2)⟩
end
end MI
namespace MI
open PySem PySem.Spec L2
structure FnG (P : Program) (w : World) (K : PySem.W.Frag) (mg : Str -> Option Value) (base : Heap) (k : Nat) (f : Addr) (fd : FuncData) (ps : List Str) (sp : Sp) : Prop where
  len : ∀ vs H Q E, sp vs H Q E -> vs.length = ps.length
  go : ∀ (A : Around) (out : List Env) (s : Shared) (H : Hp) (ar : Args) (us : List Value) (vs : List V) (Q : VK) (E : XK), Room k A -> A.guards = some [] -> Env0 P w K mg base A out s H -> BindsTo s fd ar (ps.zip us) -> Vals vs us -> sp vs H Q E ->
    codeAny (model P w) A (.call (.ref f) ar) (L2.CR CX0 out P w H s Q E) s
section
variable {P : Program} {w : World} {K : PySem.W.Frag} {mg : Str -> Option Value} {base : Heap} {x qual : Str} {params : Arguments} {body : List Stmt} {scope : Scope} {dvs : List V} {kws : List (Str × V)} {f : Addr} {fd : FuncData} {cls : Nat -> Addr} {own : Nat -> Bool}
theorem fnG_of {N ps : List Str} {k : Nat} {sp : Sp} (F : FunD K x qual params body scope dvs kws f fd) (S : FnScope N ps scope) (len : ∀ vs H Q E, sp vs H Q E -> vs.length = ps.length)
    (hb : ∀ (cdv : Value) (A : Around) (out : List Env) (s : Shared) (H : Hp) (vs : List V) (Q : VK) (E : XK), Room k (A.deeper (PyProof.Rows.envOfC qual scope s.heap.objs.size f cdv)) -> A.guards = some [] -> sp vs H Q E ->
      ∃ t, PSs (cxOf CX0 P w K mg base N qual scope f cdv A out s H E) body t /\ t { nx := fun _ H' => Q .non H', rt := Q } (L2.start N vs) H) : FnG P w K mg base (k + 1) f fd ps sp := by
  obtain ⟨oc, od, dV, kV, doc, pm, an, cdv, ct, osl, rfl, lk, hcd, _, _⟩ := F.ex
  refine ⟨len, fun A out s H ar us vs Q E room gd env bt rel hsp => ?_⟩
  have kin : K.In s.heap := env.mod.kin.keeps fun b o e => (env.bs b o e).1
  have nolim : s.heap.NoLimit := env.mod.nolimit.keeps fun b o e => (env.bs b o e).1
  have kinds : ∀ y ∈ ps.zip us, scope.names.lookup y.1 = some .local \/ (scope.names.lookup y.1 = some .cell /\ ((cellsFrom (s.heap.objs.size + 1) scope.names []).lookup y.1).isSome = true) := by
    rintro ⟨n, v⟩ hy
    rcases S.par n (List.of_mem_zip hy).1 with z | z
    · exact .inl z
    · exact .inr ⟨z, PySem.W.cellsFrom_some _ _ _ (.inl z)⟩
  refine codeAny_call_function room.depth (kin _ _ lk) rfl S.co S.gen rfl (PySem.W.codeRec_of kin hcd) (bt _ _ _ _ ?_)
  refine wpAny_newFunctionEnv_cells S.kind kinds fun en hen s1 inc => ?_
  subst hen
  refine ⟨nolim.keeps inc.toInCall.keep, codeAny_func ?_⟩
  obtain ⟨t, pt, ht⟩ := hb cdv A out s H vs Q E (room.deeper _) gd hsp
  have J0 : Inv (cxOf CX0 P w K mg base N qual scope f cdv A out s H E) [] (L2.start N vs) H s1 := inv_start S room.hd env (len _ _ _ _ hsp) rel inc
  refine wpAny_mono (pt.run [] s1 (L2.start N vs) H _ J0 ht) (fun fl s' hs => ?_) fun e s' hs => hs
  cases fl with
  | ret u =>
    obtain ⟨v, σ', H', J, rv, q⟩ := hs
    exact ⟨v, H', J.os, J.bare, J.base, J.hok, rv, q⟩
  | next =>
    obtain ⟨σ', H', J, q⟩ := hs
    exact ⟨.non, H', J.os, J.bare, J.base, J.hok, rfl, q⟩
  | brk => obtain ⟨_, _, _, q⟩ := hs; exact q.elim
  | cont => obtain ⟨_, _, _, q⟩ := hs; exact q.elim
theorem fn_okG {N ps : List Str} {k : Nat} {den : Den Fl} (F : FunD K x qual params body scope dvs kws f fd) (S : FnScope N ps scope) (hop : ∀ i, i < ps.length -> own i = false)
    (hb : ∀ (cdv : Value) (A : Around) (out : List Env) (s : Shared) (H : Hp) (E : XK), Room k (A.deeper (PyProof.Rows.envOfC qual scope s.heap.objs.size f cdv)) -> A.guards = some [] -> SSs cls own (cxOf CX0 P w K mg base N qual scope f cdv A out s H E).nox body den) :
    FnG P w K mg base (k + 1) f fd ps (SpD ⟨K, P, w⟩ cls ps.length (runFn N.length den)) := by
  refine fnG_of F S (fun vs H Q E h => h.1) fun cdv A out s H vs Q E hr gd h => ⟨_, PSs.nox (hb cdv A out s H E hr gd), ?_⟩
  obtain ⟨hl, G, al, ds, st, d, st', hst, dv, e, k⟩ := h
  have r0 : Rst ⟨K, P, w⟩ cls own G al ⟨ds.map some ++ List.replicate (N.length - ds.length) none, st⟩ (L2.start N vs) H := by
    refine ⟨hst, by simp [L2.start, dv.length], fun i d q ho => ?_, fun i d q ho => ?_⟩
    · obtain ⟨v, h1, h2⟩ := dv.get (start_get q)
      refine ⟨v, ?_, h2⟩
      unfold L2.start
      rw [List.getElem?_append_left (by simpa using (List.getElem?_eq_some_iff.mp h1).1), List.getElem?_map, h1]
      rfl
    · have := (List.getElem?_eq_some_iff.mp (start_get q)).1
      rw [hop i (by rw [<- hl, dv.length]; exact this)] at ho
      cases ho
  unfold runFn at e
  split at e
  case h_3 => cases e
  case h_1 _ d0 m0 e0 =>
    cases e
    exact ⟨G, al, _, .rt _, m0, r0, e0, fun G1 al1 σ1 H1 ev1 r1 v dv1 => k G1 al1 v H1 ev1 r1.hst dv1⟩
  case h_2 _ m0 e0 =>
    cases e
    exact ⟨G, al, _, .nx, m0, r0, e0, fun G1 al1 σ1 H1 ev1 r1 => k G1 al1 .non H1 ev1 r1.hst .non⟩
end
structure DefG (P : Program) (w : World) (K : PySem.W.Frag) (mg : Str -> Option Value) (base : Heap) (cls : Nat -> Addr) (k : Nat) (x : Str) (f : Addr) (fd : FuncData) (ps : List Str) (fn : Fn) : Prop where
  ok : FnG P w K mg base k f fd ps (SpD ⟨K, P, w⟩ cls ps.length fn)
  gl : mg x = some (.ref f)
  kp : PySem.W.keepIn K (.ref f) = true
section
variable {cls : Nat -> Addr} {own : Nat -> Bool} {X : Cx} {k j n : Nat} {f : Addr} {fd : FuncData} {ps ks : List Str} {fn : Fn} {x : Str} {p pos : Pos} {e : Expr} {es : List Expr} {fs fk : Den (List Hd)} {kws : List Keyword} {sp : List Src} {dvs : List V} {dds : List D} {mv : List Value}
theorem runG {pins : List (Addr × Obj)} {σ : St} {H : Hp} {s : Shared} {Q : VK} {us ws : List Value} {vs zs : List V} {sp : Sp} {g : List Value -> List Value -> List Value} {gV : List V -> List V -> List V} (F : FnG X.prog X.w X.K X.mg X.base k f fd ps sp) (hr : Room k X.A) (gd : X.A.guards = some []) (hb : KBn X.K fd ps n ks g gV)
    (I : Inv X pins σ H s) (r : Vals vs us) (rz : Vals zs ws) (l1 : vs.length = n) (l2 : zs.length = ks.length) (h : sp (gV vs zs) H Q L2.E0) : wpAny (model X.prog X.w) X.A (call (.ref f) us (ks.zip ws)) (EP X pins σ Q) X.xe s := by
  refine wpAny_call (codeAny_mono (F.go X.A X.stack s H ⟨us, ks.zip ws⟩ (g us ws) (gV vs zs) Q L2.E0 hr gd I.env0 (hb.to s us ws I.kIn (by rw [<- r.length]; exact l1) (by rw [<- rz.length]; exact l2)) (hb.rel r rz) h) fun res s' hq => ?_)
  cases res with
  | error ex => exact pass0 (X := X) pins σ H s ex s' I hq
  | ok fl => cases fl with
    | ret u => exact I.after hq
    | next => exact hq.elim
    | brk => exact hq.elim
    | cont => exact hq.elim
theorem yc (F : DefG X.prog X.w X.K X.mg X.base cls j x f fd ps fn) (hr : Room k X.A) (gd : X.A.guards = some []) (hb : KBn X.K fd ps n ks (fun us ws => arr sp us mv ws) (fun vs zs => arr sp vs dvs zs))
    (hdd : DVs X.kx (fun _ => none) [] dvs dds) (ha : SHs cls own X (e :: es) fs) (hkw : SKs cls own X kws fk) (hnp : ∀ vs zs : List V, vs.length = n -> zs.length = ks.length -> (arr sp vs dvs zs).length = ps.length) (hl1 : ∀ m hs m', fs m = .ok hs m' -> hs.length = n) (hl2 : ∀ m hs m', fk m = .ok hs m' -> hs.length = ks.length)
    (hjk : j <= k := by decide) (hg : Gl X x := by rfl)
    (hall : (backToKw pos (keywordEach kws X.env)).all (·.1.isSome) = true := by rfl) (hks : (backToKw pos (keywordEach kws X.env)).filterMap (·.1) = ks := by rfl)
    (hdb : (x == ("__debug__" : Str)) = false := by decide) (he : starEach (e :: es) X.env = (false, eval e X.env) :: starEach es X.env := by rfl)
    (hpl : ((backTo pos (starEach (e :: es) X.env)).any (·.1) || (backToKw pos (keywordEach kws X.env)).any (·.1.isNone)) = false := by rfl) :
    SE cls own X (.Call (.Name x p) (e :: es) kws pos) (eCallK fn sp dds (aVals fs) (aVals fk)) := by
  refine ⟨fun pins s σ H Q I h => ?_⟩
  have h := callK_core (np := ps.length) hnp hdd hl1 hl2 h
  refine wpAny_Call_Name_kw (ld_glob I hg F.gl ?_ hdb)
  refine PySem.W.callWith_KW (h₀ := X.base) I.ok.mod.kin F.kp hall (thn (ha.run pos pins s σ H _ I h) fun us s1 ⟨vs, H1, I1, r, q⟩ => ?_) hpl he
  refine thn (hkw.run pos pins s1 σ H1 _ I1 q) fun ws s2 ⟨zs, H2, I2, rz, l1, l2, q2⟩ => ⟨I2.kIn, ?_⟩
  rw [hks]
  exact runG F.ok (hr.mono hjk) gd hb I2 r rz l1 l2 q2
theorem yc0 (F : DefG X.prog X.w X.K X.mg X.base cls j x f fd ps fn) (hr : Room k X.A) (gd : X.A.guards = some []) (hb : KBn X.K fd ps 0 ks (fun us ws => arr sp us mv ws) (fun vs zs => arr sp vs dvs zs))
    (hdd : DVs X.kx (fun _ => none) [] dvs dds) (hkw : SKs cls own X kws fk) (hnp : ∀ vs zs : List V, vs.length = 0 -> zs.length = ks.length -> (arr sp vs dvs zs).length = ps.length) (hl2 : ∀ m hs m', fk m = .ok hs m' -> hs.length = ks.length)
    (hjk : j <= k := by decide) (hg : Gl X x := by rfl)
    (hall : (backToKw pos (keywordEach kws X.env)).all (·.1.isSome) = true := by rfl) (hks : (backToKw pos (keywordEach kws X.env)).filterMap (·.1) = ks := by rfl)
    (hdb : (x == ("__debug__" : Str)) = false := by decide) (hpl : ((backTo pos (starEach [] X.env)).any (·.1) || (backToKw pos (keywordEach kws X.env)).any (·.1.isNone)) = false := by rfl) :
    SE cls own X (.Call (.Name x p) [] kws pos) (eCallK fn sp dds (aVals aNil) (aVals fk)) := by
  refine ⟨fun pins s σ H Q I h => ?_⟩
  have h := callK_core (np := ps.length) (n := 0) hnp hdd (fun m hs m' h => aNil_len h) hl2 h
  obtain ⟨G, al, m, d, m', r, e, k0⟩ := h
  cases e
  have h1 := k0 G al [] H .refl r .nil
  refine wpAny_Call_Name_kw (ld_glob I hg F.gl ?_ hdb)
  refine PySem.W.callWith_KW0 (h₀ := X.base) I.ok.mod.kin F.kp hall (thn (hkw.run pos pins s σ H _ I h1) fun ws s2 ⟨zs, H2, I2, rz, l1, l2, q2⟩ => ⟨I2.kIn, ?_⟩) hpl
  rw [hks]
  exact runG F.ok (hr.mono hjk) gd hb I2 .nil rz l1 l2 q2
end
theorem lawG {P : Program} {w : World} {K : PySem.W.Frag} {mg mb : Str -> Option Value} {k : Nat} {fa a : Addr} {fd : FuncData} {x : Str} {sp : Sp} {s1 : Shared} {us : List Value} {ns : List Int}
    (kin : K.In s1.heap) (nsg : s1.heap.Ns mainGlobals mg) (nsb : s1.heap.Ns builtinsNs mb) (hbb : ∀ x : Str, x ≠ "__name__" -> mb x = bootBuiltins x) (nolim : s1.heap.NoLimit) (gens : s1.gens = #[])
    (ha : s1.heap.get? a = some { cls := .type "list", data := .seq us.toArray }) (its : PyProof.Rows.IntsAre us ns) (fit : ns.length <= sizeLine) (room : Room k callerA)
    (F : ∀ base : Heap, K.In base -> base.Ns mainGlobals mg -> FnG P w K mg base k fa fd [x] sp) (bt : ∀ (s : Shared) (u : Value), BindsTo s fd ⟨[u], []⟩ [(x, u)])
    (hsp : ∀ H : Hp, SqL K H a (ns.map V.int) -> sp [.ref a] H (fun v _ => v = .bl true) fun _ _ _ => False) :
    codeAny (model P w) callerA (.call (.ref fa) ⟨[.ref a], []⟩) (fun r s' => r = .ok (.ret (.bool true)) /\ OldK s1.heap s'.heap /\ s'.os = s1.os /\ PyProof.Rows.AllBare s'.gens) s1 := by
  have rel := vals_ints its
  have main : ∀ H : Hp, (∀ b, H b = none \/ (b = a /\ K.lookup a = none /\ ∃ o xs, H b = some (.frz o (.lst xs)))) -> SqL K H a (ns.map V.int) -> HOk P w H s1.heap ->
      codeAny (model P w) callerA (.call (.ref fa) ⟨[.ref a], []⟩) (fun r s' => r = .ok (.ret (.bool true)) /\ OldK s1.heap s'.heap /\ s'.os = s1.os /\ PyProof.Rows.AllBare s'.gens) s1 := by
    intro H only hS hok
    have free : ∀ {b : Addr} {o : Obj}, s1.heap.get? b = some o -> (b = a -> ∃ es ep, o.data = .dict es ep) -> H b = none := by
      intro b o e hd
      rcases only b with z | ⟨rfl, _, _⟩
      · exact z
      · obtain ⟨es, ep, hd⟩ := hd rfl
        rw [ha] at e; cases e; cases hd
    have spaces : ∀ {b : Addr} {m : Str -> Option Value}, s1.heap.Ns b m -> (hidT s1.heap H).Ns b m := by
      rintro b m ⟨o, es, ep, e, d, r⟩
      exact ⟨o, es, ep, hidT_get e (free e fun _ => ⟨es, ep, d⟩), d, r⟩
    have kb : K.In (hidT s1.heap H) := by
      intro b o e
      refine hidT_get (kin b o e) ?_
      rcases only b with z | ⟨rfl, z, _⟩
      · exact z
      · rw [z] at e; cases e
    have md : Mod K mg (hidT s1.heap H) := ⟨kb, spaces nsg, ⟨mb, spaces nsb, hbb⟩, by obtain ⟨mc, h1, h2⟩ := nolim; exact ⟨mc, spaces h1, h2⟩⟩
    have env : Env0 P w K mg (hidT s1.heap H) callerA [] s1 H := ⟨rfl, md, fun b o e => of_hidT e, Nat.le_of_eq (hidT_size _ _), trivial, fun b hb => absurd (show b ∈ ([] : List Addr) from hb) (by simp), hok, .of_eq gens⟩
    refine codeAny_mono ((F _ kb (spaces nsg)).go callerA [] s1 H ⟨[.ref a], []⟩ [.ref a] [.ref a] _ _ room rfl env (bt s1 (.ref a)) (.cons rfl .nil) (hsp H hS)) fun res s' hres => ?_
    cases res with
    | error ex => exact (show False from hres).elim
    | ok fl => cases fl with
      | next => exact hres.elim
      | brk => exact hres.elim
      | cont => exact hres.elim
      | ret u =>
        obtain ⟨v, H', os, bare, un, hok', rv, hv⟩ := hres
        have hv : v = .bl true := hv
        subst hv
        have hu : u = Value.bool true := rv
        subst hu
        refine ⟨rfl, OldK.of_keep fun b o e => ?_, os, bare⟩
        rcases only b with z | ⟨_, _, ob, xs, z⟩
        · exact un.keep b o e z (fun y => absurd (show b ∈ ([] : List Addr) from y) (by simp)) (by simp)
        · obtain ⟨e1, _⟩ := hok b _ z
          obtain ⟨e2, _⟩ := hok' b _ (un.frzs b ob _ z)
          rw [e] at e1; cases e1
          exact e2
  cases hk : K.lookup a with
  | some o =>
    have e := kin a o hk
    rw [ha] at e; cases e
    exact main (fun _ => none) (fun _ => .inl rfl) (.inr ⟨_, us.toArray, _, hk, rfl, rfl, rfl, by rw [List.size_toArray, its.length]; exact fit, by simpa using rel⟩) fun b u z => nomatch (show (none : Option HO) = some u from z)
  | none =>
    refine main (fun b => if b = a then some (.frz { cls := .type "list", data := .seq us.toArray } (.lst (ns.map V.int))) else none) (fun b => ?_) (.inl (.inr ⟨{ cls := .type "list", data := .seq us.toArray }, if_pos rfl⟩)) fun b u z => ?_
    · by_cases hb : b = a
      · exact .inr ⟨hb, hk, _, _, if_pos hb⟩
      · exact .inl (if_neg hb)
    · by_cases hb : b = a
      · have z := (if_pos hb).symm.trans z
        cases z
        subst hb
        exact ⟨ha, by rw [List.length_map]; exact fit, us, _, rel, ha⟩
      · exact nomatch (if_neg hb).symm.trans z
theorem walkG {l : PySem.W.OpenLaw} {n k : Nat} {q : Program} {loose : List Str} {XP : (Str -> Option Value) -> Heap -> Prop} {YP : World -> Heap -> Prop} {d : DefRec} {x : Str} (most : l.most = some n) (fit : n <= sizeLine) (hdf : d.params.defaults = []) (room : Room k callerA)
    (F : ∀ (w : World) (mg : Str -> Option Value) (fa : Addr) (h : Heap), YP w h -> h.Ns mainGlobals mg -> mg d.name = some (.ref fa) ->
      ∃ (K : PySem.W.Frag) (fd : FuncData) (sp : Sp), K.In h /\ (∀ (s : Shared) (u : Value), BindsTo s fd ⟨[u], []⟩ [(x, u)]) /\
        (∀ (H : Hp) (a : Addr) (ns : List Int), ns.length <= n -> SqL K H a (ns.map V.int) -> sp [.ref a] H (fun v _ => v = .bl true) fun _ _ _ => False) /\
        ∀ base : Heap, K.In base -> base.Ns mainGlobals mg -> FnG l.prog w K mg base k fa fd [x] sp) :
    PySem.W.WalkO q loose XP YP l.row.toRowW d [] (fun f vs => PySem.call f vs) := by
  refine Att.attach_call most hdf fun w s0 s1 mg mb fa o pm cd doc a us ns G Y ho hd hcd hmg hobj its hlen hg => ?_
  obtain ⟨K, fd, sp, kin, bt, hsp, hF⟩ := F w mg fa _ Y G.T.g hmg
  exact lawG kin G.T.g G.T.b G.T.builtins G.T.nolimit hg hobj its (Nat.le_trans hlen fit) room hF bt fun H hS => hsp H a ns hlen hS
end MI
namespace MI
open PySem PySem.Spec L2
def rRepr (K : PySem.W.Frag) : List V -> Hp -> VK -> Prop := fun xs H Q => ∃ (x : V) (p : PyData), xs = [x] /\ Dp K H x p /\ p.showable = true /\ p.hasDict = false /\ p.depth <= 16 /\ p.shown.length <= sizeLine /\ Q (.str p.shown) H
section
variable {X : Cx}
theorem cr_repr (gd : X.A.guards = some []) (hu : X.A.units + 65 < cLine) : CallR X (.builtin "repr") (rRepr X.K) := by
  intro pins s σ H xs us Q I r h
  obtain ⟨x, p, rfl, dp, hs, hd, hdep, hz, q⟩ := h
  obtain ⟨u, rfl, rx⟩ := vals1 r
  have big : ∀ {a : Addr} {as : List Addr}, u = .ref a -> Reads s.heap u p as -> wpAny (model X.prog X.w) X.A (call (.builtin "repr") [u]) (EP X pins σ Q) X.xe s := by
    intro a as e rd
    subst e
    exact repr_of_reads' rd hs (fun z => by rw [hd] at z; cases z) gd (by omega) (fun _ _ z => z) (fun h' t tk hk => ⟨.str p.shown, H, I.kept hk, ⟨t, rfl⟩, q⟩) hz
  obtain ⟨as, rd⟩ := Dp.reads I p x u dp rx
  cases dp with
  | non => cases rx; exact PySem.P.repr_of_none ⟨.str "None", H, I.tok _, ⟨_, rfl⟩, q⟩
  | bl b => cases rx; exact PySem.P.repr_of_bool ⟨.str _, H, I.tok _, ⟨_, rfl⟩, q⟩
  | int i =>
    obtain ⟨t, rfl⟩ := rx
    exact PySem.P.repr_of_int (of_decide_eq_true hs) ⟨.str _, H, I.tok _, ⟨_, rfl⟩, q⟩
  | str y =>
    obtain ⟨t, rfl⟩ := rx
    exact PySem.P.repr_of_str ⟨.str _, H, I.tok _, ⟨_, rfl⟩, q⟩ hz
  | lst _ _ => cases rx; exact big rfl rd
  | tup _ _ => cases rx; exact big rfl rd
end
def gRepr : List D -> Option D
  | [d] => match toPy d with
    | some p => if p.showable && (!p.hasDict && (decide (p.depth <= 16) && decide (p.shown.length <= sizeLine))) then some (.str p.shown) else none
    | none => none
  | _ => none
section
variable {cls : Nat -> Addr} {own : Nat -> Bool} {K : KX}
theorem ok_repr : FnOkD K cls own (rRepr K.K) gRepr := by
  intro G al m σ H xs da d Q r hx e k
  unfold gRepr at e
  split at e
  case h_2 => cases e
  next d0 =>
  split at e
  case h_2 => cases e
  next p e1 =>
  split at e
  case isFalse => cases e
  next hok =>
  cases e
  obtain ⟨x, rfl, hc⟩ := hx.one
  simp only [Bool.and_eq_true, Bool.not_eq_true', decide_eq_true_eq] at hok
  obtain ⟨h1, h2, h3, h4⟩ := hok
  exact ⟨x, p, rfl, hc.dp r.zh e1, h1, h2, h3, h4, k.keep r (.str _)⟩
def gIsU (a b : D) : Option D := match a, b with
  | .bl x, .bl y => some (.bl (decide (x = y)))
  | a, b => gIsN a b
def gNotU (a b : D) : Option D := match a, b with
  | .bl x, .bl y => some (.bl (!decide (x = y)))
  | a, b => gNotN a b
abbrev rIsN0 : R2 := fun x y H Q => y = .non /\ Q (.bl (decide (x = .non))) H
abbrev rNotN0 : R2 := fun x y H Q => y = .non /\ Q (.bl (!decide (x = .non))) H
theorem op_isU {X : Cx} : OpR X (compareOp .Is) (rOr rIsN0 rIsB) := opR_or op_isN op_isBl
theorem op_notU {X : Cx} : OpR X (compareOp .IsNot) (rOr rNotN0 rNotB) := opR_or op_notN op_notBl
theorem ok_isU : OpOk K cls own (rOr rIsN0 rIsB) gIsU := by
  intro G al m σ H x y da db d Q r hx hy e k
  unfold gIsU at e
  split at e
  · cases e; cases hx.bl; cases hy.bl; exact .inr ⟨_, _, rfl, rfl, k.keep r (.bl _)⟩
  · exact .inl (ok_isN G al m σ H x y _ _ d Q r hx hy e k)
theorem ok_notU : OpOk K cls own (rOr rNotN0 rNotB) gNotU := by
  intro G al m σ H x y da db d Q r hx hy e k
  unfold gNotU at e
  split at e
  · cases e; cases hx.bl; cases hy.bl; exact .inr ⟨_, _, rfl, rfl, k.keep r (.bl _)⟩
  · exact .inl (ok_notN G al m σ H x y _ _ d Q r hx hy e k)
end
end MI
namespace MI
open PySem PySem.Spec L2
end MI
namespace MI
open PySem PySem.Spec L2
theorem bt_repr : bootBuiltins "repr" = some (.builtin "repr") := by decide +kernel
theorem bt_set : bootBuiltins "set" = some (.type "set") := by decide +kernel
end MI
namespace MI
open PySem PySem.Spec L2
def idxP (d : PyData) : List PyData -> Option Nat
  | [] => none
  | z :: r => if PyData.eqv z d then some 0 else (idxP d r).map (· + 1)
def gIndex (t x : D) : Option D := match t with
  | .tup ds => match okE (.tup ds), okE x with
    | some (.tuple ps), some p => (idxP p ps).map fun j => .int (j : Nat)
    | _, _ => none
  | _ => none
def eIndex (fo : Den D) (fs : Den (List Hd)) : Den D := fo.bind fun o => fun m0 => match o with
  | .tup _ => match fs m0 with
    | .ok [h] m => match look h m with
      | some x => match gIndex o x with
        | some z => .ok z m
        | none => .bad
      | none => .bad
    | _ => .bad
  | _ => .bad
end MI
namespace MI
open PySem PySem.Spec L2
abbrev sO (w : World) : Obj := { cls := .type "set", dict := none, data := .set #[] 0 (.fresh 0 0 (!w.params.followText "set-order")) }
end MI
namespace MI
open PySem PySem.Spec L2
section
variable {α : Type} [DecidableEq α]
theorem nodup_le : ∀ {l m : List α}, l.Nodup -> (∀ x ∈ l, x ∈ m) -> l.length <= m.length
  | [], _, _, _ => Nat.zero_le _
  | x :: l, m, h, hs => by
    rw [List.nodup_cons] at h
    have hx : x ∈ m := hs x (List.mem_cons_self ..)
    have := nodup_le (l := l) (m := m.erase x) h.2 fun y hy => (List.mem_erase_of_ne (by rintro rfl; exact h.1 hy)).mpr (hs y (List.mem_cons_of_mem _ hy))
    rw [List.length_erase_of_mem hx] at this
    have hp : 0 < m.length := List.length_pos_of_mem hx
    rw [List.length_cons]; omega
theorem nodup_len {l m : List α} (h1 : l.Nodup) (h2 : m.Nodup) (h : ∀ x, x ∈ l ↔ x ∈ m) : l.length = m.length := Nat.le_antisymm (nodup_le h1 fun x hx => (h x).mp hx) (nodup_le h2 fun x hx => (h x).mpr hx)
end
end MI
namespace MI
open PySem PySem.Spec L2
section
variable {α β : Type} {m : MS} {f g : Den D} {b b2 : Den Bool} {s s2 : Den Fl} {h h2 : Den Hd} {hs hs2 : Den (List Hd)} {l l2 : Den (List D)} {i : Nat} {d : D} {is : List Nat} {tg : Tg}
@[simp] theorem eVar_at : eVar i m = match m.sl[i]? with
  | some (some d) => .ok d m
  | _ => .bad := rfl
@[simp] theorem eC_at : eC d m = .ok d m := rfl
@[simp] theorem hSlot_at : hSlot i m = match m.sl[i]? with
  | some (some _) => .ok (.slot i) m
  | _ => .bad := rfl
@[simp] theorem ret_at {a : α} : Den.ret a m = .ok a m := rfl
@[simp] theorem hVal_at : hVal f m = match f m with
  | .ok d m1 => .ok (.val d) m1
  | .bad => .bad := by
  simp only [hVal, Den.bind, Den.ret]
  repeat' (first | rfl | split)
  all_goals simp_all
@[simp] theorem aNil_at : aNil m = .ok [] m := rfl
@[simp] theorem aCons_at : aCons h hs m = match h m with
  | .ok d m1 => match hs m1 with
    | .ok ds m2 => .ok (d :: ds) m2
    | .bad => .bad
  | .bad => .bad := by
  simp only [aCons, Den.bind, Den.ret]
  repeat' (first | rfl | split)
  all_goals simp_all
@[simp] theorem eOp_at {G : D -> D -> Option D} : eOp G h h2 m = match h m with
  | .ok x m1 => match h2 m1 with
    | .ok y m2 => match look x m2, look y m2 with
      | some u, some v => match G u v with
        | some z => .ok z m2
        | none => .bad
      | _, _ => .bad
    | .bad => .bad
  | .bad => .bad := by
  simp only [eOp, Den.bind, Den.ret]
  repeat' (first | rfl | split)
  all_goals simp_all
@[simp] theorem eUn_at {G : D -> Option D} : eUn G h m = match h m with
  | .ok x m1 => match look x m1 with
    | some u => match G u with
      | some z => .ok z m1
      | none => .bad
    | none => .bad
  | .bad => .bad := by
  simp only [eUn, Den.bind, Den.ret]
  repeat' (first | rfl | split)
  all_goals simp_all
@[simp] theorem eFn_at {G : List D -> Option D} : eFn G hs m = match hs m with
  | .ok xs m1 => match looks xs m1 with
    | some us => match G us with
      | some z => .ok z m1
      | none => .bad
    | none => .bad
  | .bad => .bad := by
  simp only [eFn, Den.bind, Den.ret]
  repeat' (first | rfl | split)
  all_goals simp_all
@[simp] theorem eTup_at : eTup hs m = match hs m with
  | .ok xs m1 => match looksV xs with
    | some ds => if fitL ds.length then .ok (.tup ds) m1 else .bad
    | none => .bad
  | .bad => .bad := by
  simp only [eTup, Den.bind, Den.ret]
  repeat' (first | rfl | split)
  all_goals simp_all
@[simp] theorem eLst_at : eLst hs m = match hs m with
  | .ok xs m1 => match looksV xs with
    | some ds => if fitL ds.length then .ok (.lst ds) m1 else .bad
    | none => .bad
  | .bad => .bad := by
  simp only [eLst, Den.bind, Den.ret]
  repeat' (first | rfl | split)
  all_goals simp_all
@[simp] theorem bTru_at : bTru h m = match h m with
  | .ok x m1 => match look x m1 with
    | some d => match gTru d with
      | some b => .ok b m1
      | none => .bad
    | none => .bad
  | .bad => .bad := by
  simp only [bTru, Den.bind, Den.ret]
  repeat' (first | rfl | split)
  all_goals simp_all
@[simp] theorem bOf_at : bOf f m = match f m with
  | .ok d m1 => match d with
    | .bl c => .ok c m1
    | _ => .bad
  | .bad => .bad := by
  simp only [bOf, Den.bind, Den.ret]
  cases f m with
  | bad => rfl
  | ok d m1 => cases d <;> rfl
@[simp] theorem bAnd_at : bAnd b b2 m = match b m with
  | .ok c m1 => if c then b2 m1 else .ok false m1
  | .bad => .bad := by
  simp only [bAnd, Den.bind, Den.ret]
  repeat' (first | rfl | split)
  all_goals simp_all
@[simp] theorem bOr_at : bOr b b2 m = match b m with
  | .ok c m1 => if c then .ok true m1 else b2 m1
  | .bad => .bad := by
  simp only [bOr, Den.bind, Den.ret]
  repeat' (first | rfl | split)
  all_goals simp_all
@[simp] theorem bNot_at : bNot b m = match b m with
  | .ok c m1 => .ok (!c) m1
  | .bad => .bad := by
  simp only [bNot, Den.bind, Den.ret]
  repeat' (first | rfl | split)
  all_goals simp_all
@[simp] theorem eIf_at : eIf b f g m = match b m with
  | .ok c m1 => if c then f m1 else g m1
  | .bad => .bad := by
  simp only [eIf, Den.bind, Den.ret]
  repeat' (first | rfl | split)
  all_goals simp_all
@[simp] theorem eAnd_at : eAnd f g m = match bOf f m with
  | .ok c m1 => if c then g m1 else .ok (.bl false) m1
  | .bad => .bad := by
  simp only [eAnd, Den.bind, Den.ret]
  repeat' (first | rfl | split)
  all_goals simp_all
@[simp] theorem eOr_at : eOr f g m = match bOf f m with
  | .ok c m1 => if c then .ok (.bl true) m1 else g m1
  | .bad => .bad := by
  simp only [eOr, Den.bind, Den.ret]
  repeat' (first | rfl | split)
  all_goals simp_all
@[simp] theorem eNot_at : eNot f m = match bOf f m with
  | .ok c m1 => .ok (.bl (!c)) m1
  | .bad => .bad := by
  simp only [eNot, Den.bind, Den.ret]
  repeat' (first | rfl | split)
  all_goals simp_all
@[simp] theorem aVals_at : aVals hs m = match hs m with
  | .ok xs m1 => match looksV xs with
    | some ds => .ok ds m1
    | none => .bad
  | .bad => .bad := by
  simp only [aVals, Den.bind, Den.ret]
  repeat' (first | rfl | split)
  all_goals simp_all
@[simp] theorem sSeq_at : sSeq s s2 m = match s m with
  | .ok fl m1 => match fl with
    | .nx => s2 m1
    | fl => .ok fl m1
  | .bad => .bad := by
  simp only [sSeq, Den.bind, Den.ret]
  repeat' (first | rfl | split)
  all_goals simp_all
@[simp] theorem sNx_at : sNx m = .ok .nx m := rfl
@[simp] theorem sDrop_at : sDrop f m = match f m with
  | .ok _ m1 => .ok .nx m1
  | .bad => .bad := by
  simp only [sDrop, Den.bind, Den.ret]
  repeat' (first | rfl | split)
  all_goals simp_all
@[simp] theorem sRet_at : sRet f m = match f m with
  | .ok d m1 => .ok (.rt d) m1
  | .bad => .bad := by
  simp only [sRet, Den.bind, Den.ret]
  repeat' (first | rfl | split)
  all_goals simp_all
@[simp] theorem sIf_at : sIf b s s2 m = match b m with
  | .ok c m1 => if c then s m1 else s2 m1
  | .bad => .bad := by
  simp only [sIf, Den.bind, Den.ret]
  repeat' (first | rfl | split)
  all_goals simp_all
@[simp] theorem sSet_at : sSet i f m = match f m with
  | .ok d m1 => .ok .nx ⟨m1.sl.set i (some d), m1.st⟩
  | .bad => .bad := by
  simp only [sSet, Den.bind, Den.ret]
  repeat' (first | rfl | split)
  all_goals simp_all
@[simp] theorem sAsg_at : sAsg tg f m = match f m with
  | .ok d m1 => match tgSet tg d m1.sl with
    | some sl => .ok .nx ⟨sl, m1.st⟩
    | none => .bad
  | .bad => .bad := by
  simp only [sAsg, Den.bind, Den.ret]
  repeat' (first | rfl | split)
  all_goals simp_all
@[simp] theorem iSeq_at : iSeq f m = match f m with
  | .ok d m1 => match d with
    | .lst ds => .ok ds m1
    | .tup ds => .ok ds m1
    | _ => .bad
  | .bad => .bad := by
  simp only [iSeq, Den.bind, Den.ret]
  cases f m with
  | bad => rfl
  | ok d m1 => cases d <;> rfl
@[simp] theorem sFor_at : sFor l tg s m = match l m with
  | .ok ds m1 => loopD tg s ds m1
  | .bad => .bad := by
  simp only [sFor, Den.bind, Den.ret]
  repeat' (first | rfl | split)
  all_goals simp_all
@[simp] theorem mNil_at : mNil m = .ok [] m := rfl
@[simp] theorem mCons_at : mCons f l m = match f m with
  | .ok d m1 => match l m1 with
    | .ok ds m2 => .ok (d :: ds) m2
    | .bad => .bad
  | .bad => .bad := by
  simp only [mCons, Den.bind, Den.ret]
  repeat' (first | rfl | split)
  all_goals simp_all
@[simp] theorem sMulti_at : sMulti is l m = match l m with
  | .ok ds m1 => if ds.length = is.length then .ok .nx ⟨setD m1.sl is ds, m1.st⟩ else .bad
  | .bad => .bad := by
  simp only [sMulti, Den.bind, Den.ret]
  repeat' (first | rfl | split)
  all_goals simp_all
@[simp] theorem eShare_at : eShare f m = match f m with
  | .ok d m1 => match d with
    | .lst ds => .ok (.obj m1.st.length) ⟨m1.sl, m1.st ++ [.lst ds]⟩
    | _ => .bad
  | .bad => .bad := by
  simp only [eShare, Den.bind, Den.ret]
  cases f m with
  | bad => rfl
  | ok d m1 => cases d <;> rfl
@[simp] theorem sPutO_at : sPutO f h g m = match g m with
  | .ok v m1 => match f m1 with
    | .ok o m2 => match h m2 with
      | .ok hk m3 => match o with
        | .obj n => match m3.st[n]?, look hk m3 with
          | some (.lst ds), some k => match gSet (.lst ds) k v with
            | some (.lst ds') => .ok .nx ⟨m3.sl, m3.st.set n (.lst ds')⟩
            | _ => .bad
          | _, _ => .bad
        | _ => .bad
      | .bad => .bad
    | .bad => .bad
  | .bad => .bad := by
  simp only [sPutO, Den.bind, Den.ret]
  cases g m with
  | bad => rfl
  | ok v m1 =>
    try dsimp only
    all_goals
      cases f m1 with
      | bad => rfl
      | ok o m2 =>
        try dsimp only
        all_goals
          cases h m2 with
          | bad => rfl
          | ok hk m3 => cases o <;> rfl
@[simp] theorem eCallK_at {fn : Fn} {sp : List Src} {dd : List D} : eCallK fn sp dd l l2 m = match l m with
  | .ok ds m1 => match l2 m1 with
    | .ok es m2 => match fn (arr sp ds dd es) m2.st with
      | some (d, st) => .ok d ⟨m2.sl, st⟩
      | none => .bad
    | .bad => .bad
  | .bad => .bad := by
  simp only [eCallK, Den.bind, Den.ret]
  cases l m with
  | bad => rfl
  | ok ds m1 =>
    try dsimp only
    all_goals
      cases l2 m1 with
      | bad => rfl
      | ok es m2 =>
        try dsimp only
        all_goals
          cases fn (arr sp ds dd es) m2.st with
          | none => rfl
          | some p => rfl
@[simp] theorem look_slot : look (.slot i) m = match m.sl[i]? with
  | some (some d) => some d
  | _ => none := rfl
@[simp] theorem look_obj {n : Nat} : look (.val (.obj n)) m = match m.st[n]? with
  | some (.lst ds) => some (.lst ds)
  | some (.dic kvs) => some (.dic kvs)
  | some (.dit kvs) => some (.dit kvs)
  | some (.ins _ _) => some (.obj n)
  | some (.exc _ _) => some (.obj n)
  | some (.tab _ _) => none
  | some .gone => none
  | none => none := rfl
@[simp] theorem look_int {j : Int} : look (.val (.int j)) m = some (.int j) := rfl
@[simp] theorem look_bl {j : Bool} : look (.val (.bl j)) m = some (.bl j) := rfl
@[simp] theorem look_str {j : Str} : look (.val (.str j)) m = some (.str j) := rfl
@[simp] theorem look_non : look (.val .non) m = some .non := rfl
@[simp] theorem look_tup {ds : List D} : look (.val (.tup ds)) m = some (.tup ds) := rfl
@[simp] theorem look_lst {ds : List D} : look (.val (.lst ds)) m = some (.lst ds) := rfl
@[simp] theorem look_dic {ds : List (D × D)} : look (.val (.dic ds)) m = some (.dic ds) := rfl
@[simp] theorem look_dit {ds : List (D × D)} : look (.val (.dit ds)) m = some (.dit ds) := rfl
@[simp] theorem look_scr {ns : List Int} : look (.val (.scr ns)) m = some (.scr ns) := rfl
@[simp] theorem looks_nil : looks [] m = some [] := rfl
@[simp] theorem looks_cons {x : Hd} {xs : List Hd} : looks (x :: xs) m = match look x m with
  | some d => match looks xs m with
    | some ds => some (d :: ds)
    | none => none
  | none => none := by
  unfold looks
  rw [List.mapM_cons]
  cases look x m with
  | none => rfl
  | some d => cases List.mapM (look · m) xs <;> rfl
@[simp] theorem looksV_nil : looksV [] = some [] := rfl
@[simp] theorem looksV_val {xs : List Hd} : looksV (.val d :: xs) = match looksV xs with
  | some ds => some (d :: ds)
  | none => none := by
  unfold looksV
  rw [List.mapM_cons]
  cases List.mapM (m := Option) (fun h => match h with
    | .val d => some d
    | .slot _ => none) xs <;> rfl
@[simp] theorem runFn_at {n : Nat} {ds : List D} {st : Sto} : runFn n s ds st = match s ⟨ds.map some ++ List.replicate (n - ds.length) none, st⟩ with
  | .ok fl m1 => match fl with
    | .rt d => some (d, m1.st)
    | .nx => some (.non, m1.st)
    | _ => none
  | .bad => none := by
  unfold runFn
  generalize s ⟨ds.map some ++ List.replicate (n - ds.length) none, st⟩ = r
  cases r with
  | bad => rfl
  | ok fl m1 => cases fl <;> rfl
end
def dCell : Den D := eIf (bOf (eOp gLt (hVal (eVar 1)) (hVal (eFn gLen (aCons (hVal (eVar 0)) (aNil)))))) (eOp gIxA (hVal (eVar 0)) (hVal (eVar 1))) (eC (.int 0))
def dGreat : Den D := eIf (bOf (eOp gGe (hVal (eFn gAbs (aCons (hVal (eVar 2)) (aNil)))) (hVal (eOp gPow (hVal (eC (.int 10))) (hVal (eC (.int 18))))))) (eOp gMod (hVal (eFn gAbs (aCons (hVal (eVar 2)) (aNil)))) (hVal (eOp gMul (hVal (eOp gMul (hVal (eOp gPow (hVal (eC (.int 10))) (hVal (eC (.int 60))))) (hVal (eOp gPow (hVal (eC (.int 10))) (hVal (eC (.int 60))))))) (hVal (eOp gPow (hVal (eC (.int 10))) (hVal (eC (.int 60)))))))) (eC (.int 0))
def dHand : Den Fl := sSeq (sSet 2 dCell) (sSeq (sSet 3 dGreat) (sRet (eShare (eLst (aCons (hVal (eVar 3)) (aCons (hVal (eOp gMod (hVal (eOp gAdd (hVal (eOp gAdd (hVal (eOp gMul (hVal (eOp gMod (hVal (eVar 2)) (hVal (eC (.int 2305843009213693951))))) (hVal (eC (.int 1000033))))) (hVal (eOp gMul (hVal (eC (.int 6857))) (hVal (eVar 1)))))) (hVal (eC (.int 41))))) (hVal (eC (.int 2305843009213693921))))) (aCons (hVal (eC (.int 0))) (aNil))))))))
def dTake : Den Fl := sSeq (sIf (bOf (eOp gGt (hVal (eOp gIxA (hVal (eVar 0)) (hVal (eC (.int 0))))) (hVal (eC (.int 0))))) (sSeq (sSet 2 (eOp gMod (hVal (eOp gIxA (hVal (eVar 0)) (hVal (eC (.int 0))))) (hVal (eVar 1)))) (sSeq (sPutO (eVar 0) (hVal (eC (.int 0))) (eOp gDiv (hVal (eOp gIxA (hVal (eVar 0)) (hVal (eC (.int 0))))) (hVal (eVar 1)))) (sRet (eVar 2)))) (sNx)) (sSeq (sSet 3 (eOp gAdd (hVal (eOp gIxA (hVal (eVar 0)) (hVal (eC (.int 2))))) (hVal (eC (.int 1))))) (sSeq (sPutO (eVar 0) (hVal (eC (.int 2))) (eVar 3)) (sSeq (sSet 4 (eOp gAdd (hVal (eOp gIxA (hVal (eVar 0)) (hVal (eC (.int 1))))) (hVal (eOp gMul (hVal (eC (.int 15485867))) (hVal (eVar 3)))))) (sSeq (sSet 5 (eOp gAdd (hVal (eOp gAdd (hVal (eOp gMod (hVal (eOp gIxA (hVal (eVar 0)) (hVal (eC (.int 1))))) (hVal (eC (.int 7907))))) (hVal (eOp gMul (hVal (eC (.int 32452867))) (hVal (eVar 3)))))) (hVal (eC (.int 19))))) (sSeq (sSet 6 (eOp gMod (hVal (eOp gMul (hVal (eVar 4)) (hVal (eVar 5)))) (hVal (eC (.int 2305843009213693951))))) (sSeq (sSet 7 (eOp gAdd (hVal (eOp gAdd (hVal (eOp gMod (hVal (eVar 6)) (hVal (eC (.int 1000003))))) (hVal (eOp gMul (hVal (eC (.int 6700441))) (hVal (eVar 3)))))) (hVal (eC (.int 7))))) (sRet (eOp gMod (hVal (eOp gDiv (hVal (eOp gMod (hVal (eOp gMul (hVal (eOp gAdd (hVal (eVar 6)) (hVal (eC (.int 11))))) (hVal (eVar 7)))) (hVal (eC (.int 2305843009213693907))))) (hVal (eC (.int 64))))) (hVal (eVar 1))))))))))
theorem gMul_ok {i j : Int} (h1 : -(2 ^ 200) < i) (h2 : i < 2 ^ 200) (h3 : -(2 ^ 200) < j) (h4 : j < 2 ^ 200) : gMul (.int i) (.int j) = some (.int (i * j)) := by
  have a := log2_le h1 h2
  have b := log2_le h3 h4
  show (if i.natAbs.log2 + j.natAbs.log2 < 1000000 then some (D.int (i * j)) else none) = _
  rw [if_pos (by omega)]
theorem gMod_ok {i j : Int} (h : 0 < j) : gMod (.int i) (.int j) = some (.int (i % j)) := if_pos h
theorem gDiv_ok {i j : Int} (h : 0 < j) (h2 : j < 2 ^ 200) : gDiv (.int i) (.int j) = some (.int (i / j)) := by
  have b := log2_le (k := 200) (i := j) (by omega) h2
  show (if 0 < j /\ j.natAbs.log2 < 9000 then some (D.int (i / j)) else none) = _
  rw [if_pos ⟨h, by omega⟩]
theorem p64 : (2 : Int) ^ 64 = 18446744073709551616 := by decide
theorem set_same {α : Type} {l : List α} {n : Nat} {a b : α} (h : l[n]? = some a) : (l.set n b)[n]? = some b := by
  rw [List.getElem?_set_self (List.getElem?_eq_some_iff.mp h).1]
theorem take_ok {st : Sto} {n : Nat} {g c t many : Int} (h : Hand st n g c t) (ht : t < 2 ^ 64) (hm : 0 < many) (hm2 : many < 2 ^ 64) :
    ∃ r g' t', runFn 8 dTake [.obj n, .int many] st = some (.int r, st.set n (.lst [.int g', .int c, .int t'])) /\ 0 <= r /\ r < many /\ t' <= t + 1 /\ Hand (st.set n (.lst [.int g', .int c, .int t'])) n g' c t' := by
  obtain ⟨h0, h1, h2, h3, h4⟩ := h
  rw [p64] at h3 ht hm2
  have big : (2 : Int) ^ 64 < 2 ^ 200 := by decide
  rw [p64] at big
  by_cases hg : 0 < g
  · refine ⟨g % many, g / many, t, ?_, Int.emod_nonneg _ (by omega), Int.emod_lt_of_pos _ hm, by omega, ⟨set_same h0, Int.ediv_nonneg h1 (by omega), h2, by rw [p64]; exact h3, h4⟩⟩
    have d1 := gMod_ok (i := g) hm
    have d2 := gDiv_ok (i := g) hm (by omega)
    simp [dTake, h0, gGt, gI, gIxA, gIx, atI, hg, d1, d2, gSet, ixN]
  · have hg0 : g = 0 := by omega
    subst hg0
    have m0 : (0 : Int) <= c % 7907 := Int.emod_nonneg _ (by decide)
    have m1 : c % 7907 < 7907 := Int.emod_lt_of_pos _ (by decide)
    have d1 := gMul_ok (i := 15485867) (j := t + 1) (by omega) (by omega) (by omega) (by omega)
    have d2 := gMul_ok (i := 32452867) (j := t + 1) (by omega) (by omega) (by omega) (by omega)
    have d3 := gMul_ok (i := c + 15485867 * (t + 1)) (j := c % 7907 + 32452867 * (t + 1) + 19) (by omega) (by omega) (by omega) (by omega)
    have d4 := gMul_ok (i := 6700441) (j := t + 1) (by omega) (by omega) (by omega) (by omega)
    generalize hx : (c + 15485867 * (t + 1)) * (c % 7907 + 32452867 * (t + 1) + 19) = x at d3
    have m2 : (0 : Int) <= x % 2305843009213693951 := Int.emod_nonneg _ (by decide)
    have m3 : x % 2305843009213693951 < 2305843009213693951 := Int.emod_lt_of_pos _ (by decide)
    generalize hy : x % 2305843009213693951 = y at m2 m3
    have m4 : (0 : Int) <= y % 1000003 := Int.emod_nonneg _ (by decide)
    have m5 : y % 1000003 < 1000003 := Int.emod_lt_of_pos _ (by decide)
    have d5 := gMul_ok (i := y + 11) (j := y % 1000003 + 6700441 * (t + 1) + 7) (by omega) (by omega) (by omega) (by omega)
    generalize hz : (y + 11) * (y % 1000003 + 6700441 * (t + 1) + 7) = z at d5
    have d6 := gMod_ok (i := z % 2305843009213693907 / 64) hm
    have d7 := gDiv_ok (i := z % 2305843009213693907) (j := 64) (by decide) (by decide)
    refine ⟨z % 2305843009213693907 / 64 % many, 0, t + 1, ?_, Int.emod_nonneg _ (by omega), Int.emod_lt_of_pos _ hm, by omega, ⟨set_same h0, by omega, h2, by rw [p64]; exact h3, by omega⟩⟩
    have e6 := gMod_ok (i := c) (j := 7907) (by decide)
    have e7 := gMod_ok (i := x) (j := 2305843009213693951) (by decide)
    rw [hy] at e7
    have e8 := gMod_ok (i := y) (j := 1000003) (by decide)
    have e9 := gMod_ok (i := z) (j := 2305843009213693907) (by decide)
    have hl : ∀ b, (st.set n b)[n]? = some b := fun b => set_same h0
    simp [dTake, h0, gGt, gI, gIxA, gIx, atI, gSet, ixN, gAdd, d1, d2, d3, d4, d5, d6, d7, e6, e7, e8, e9, hl]
theorem hand_ok {st : Sto} {ns : List Int} {k : Int} (h0 : 0 <= k) (h1 : k < 100) :
    ∃ g c, runFn 4 dHand [.scr ns, .int k] st = some (.obj st.length, st ++ [.lst [.int g, .int c, .int 0]]) /\ Hand (st ++ [.lst [.int g, .int c, .int 0]]) st.length g c 0 := by
  have big : (2 : Int) ^ 64 < 2 ^ 200 := by decide
  rw [p64] at big
  have cell : ∃ x : Int, ∀ m : MS, m.sl[0]? = some (some (.scr ns)) -> m.sl[1]? = some (some (.int k)) ->
      dCell m = .ok (.int x) m := by
    by_cases hk : k < (ns.length : Int)
    · refine ⟨ns[k.toNat]'(by omega), fun m e0 e1 => ?_⟩
      have e : atI ns k = some (ns[k.toNat]'(by omega)) := by
        have hj : ixN ns.length k = some k.toNat := by unfold ixN; rw [if_pos h0, if_pos hk]
        unfold atI
        rw [hj]
        exact List.getElem?_eq_getElem (by omega)
      simp [dCell, gLen, gLt, e0, e1, hk, gIxA, gIx, e]
    · refine ⟨0, fun m e0 e1 => ?_⟩
      simp [dCell, gLen, gLt, e0, e1, hk]
  obtain ⟨x, hx⟩ := cell
  have great : ∃ g : Int, 0 <= g /\ ∀ m : MS, m.sl[2]? = some (some (.int x)) -> dGreat m = .ok (.int g) m := by
    have p1 : gPow (.int 10) (.int 60) = some (.int (10 ^ 60)) := by rfl
    have p2 : gPow (.int 10) (.int 18) = some (.int (10 ^ 18)) := by rfl
    have p3 : gMul (.int (10 ^ 60)) (.int (10 ^ 60)) = some (.int (10 ^ 120)) := by rfl
    have p4 : gMul (.int (10 ^ 120)) (.int (10 ^ 60)) = some (.int (10 ^ 180)) := by rfl
    generalize hw : (if x < 0 then -x else x) = w
    have hw0 : 0 <= w := by rw [<- hw]; split <;> omega
    have p5 := gMod_ok (i := w) (j := 10 ^ 180) (by decide)
    by_cases hg : (10 ^ 18 : Int) <= w
    · refine ⟨w % 10 ^ 180, Int.emod_nonneg _ (by decide), fun m e => ?_⟩
      simp only [dGreat, eIf_at, bOf_at, eOp_at, hVal_at, eVar_at, eC_at, eFn_at, aCons_at, aNil_at, look_int, looks_cons, looks_nil, gAbs, e, p1, p2, p3, p4, p5, gGe, gI, hw, hg, decide_true, if_true]
    · refine ⟨0, by omega, fun m e => ?_⟩
      simp only [dGreat, eIf_at, bOf_at, eOp_at, hVal_at, eVar_at, eC_at, eFn_at, aCons_at, aNil_at, look_int, looks_cons, looks_nil, gAbs, e, p1, p2, p3, p4, p5, gGe, gI, hw, hg, decide_false]
      rfl
  obtain ⟨g, hg0, hg⟩ := great
  have m2 : (0 : Int) <= x % 2305843009213693951 := Int.emod_nonneg _ (by decide)
  have m3 : x % 2305843009213693951 < 2305843009213693951 := Int.emod_lt_of_pos _ (by decide)
  have e1 := gMod_ok (i := x) (j := 2305843009213693951) (by decide)
  generalize x % 2305843009213693951 = y at m2 m3 e1
  have d1 := gMul_ok (i := y) (j := 1000033) (by omega) (by omega) (by omega) (by omega)
  have d2 := gMul_ok (i := 6857) (j := k) (by omega) (by omega) (by omega) (by omega)
  have e2 := gMod_ok (i := y * 1000033 + 6857 * k + 41) (j := 2305843009213693921) (by decide)
  have m4 : (0 : Int) <= (y * 1000033 + 6857 * k + 41) % 2305843009213693921 := Int.emod_nonneg _ (by decide)
  have m5 : (y * 1000033 + 6857 * k + 41) % 2305843009213693921 < 2305843009213693921 := Int.emod_lt_of_pos _ (by decide)
  generalize (y * 1000033 + 6857 * k + 41) % 2305843009213693921 = c at m4 m5 e2
  refine ⟨g, c, ?_, ⟨by simp, hg0, m4, by rw [p64]; omega, by decide⟩⟩
  have fit : fitL 3 = true := by decide
  simp [dHand, hx, hg, gAdd, e1, d1, d2, e2, fit]
end MI
namespace MI
open PySem PySem.Spec L2 PySem.Builtin.Str
theorem dig_inj {a b : Nat} (h : Nat.toDigits 10 a = Nat.toDigits 10 b) : a = b := by
  rw [<- Nat.ofDigitChars_ten_toDigits (n := a), <- Nat.ofDigitChars_ten_toDigits (n := b), h]
theorem nat_list (n : Nat) : (toString (Int.ofNat n)).toList = Nat.toDigits 10 n := by
  show (Nat.repr n).toList = _
  simp [Nat.repr]
theorem neg_list (n : Nat) : (toString (Int.negSucc n)).toList = '-' :: Nat.toDigits 10 (n + 1) := by
  show ("-" ++ Nat.repr (n + 1)).toList = _
  simp [Nat.repr]
def sgI (i : Int) : List Nat := (toString i).toList.map Char.toNat
theorem map_toNat_inj : ∀ {a b : List Char}, a.map Char.toNat = b.map Char.toNat -> a = b
  | [], [], _ => rfl
  | [], _ :: _, h => by cases h
  | _ :: _, [], h => by cases h
  | x :: a, y :: b, h => by
    rw [List.map_cons, List.map_cons, List.cons.injEq] at h
    rw [Char.toNat_inj.mp h.1, map_toNat_inj h.2]
theorem no_minus {n : Nat} : '-' ∉ Nat.toDigits 10 n := by
  intro h
  have := PyProof.Rows.int_sign (Int.ofNat n)
  have q := Nat.isDigit_of_mem_toDigits (b := 10) (n := n) (c := '-') (by decide) (by decide) h
  revert q; decide
theorem sgI_inj {i j : Int} (h : sgI i = sgI j) : i = j := by
  have h := map_toNat_inj h
  cases i with
  | ofNat a => cases j with
    | ofNat b => rw [nat_list, nat_list] at h; rw [dig_inj h]
    | negSucc b =>
      rw [nat_list, neg_list] at h
      exact absurd (by rw [h]; exact List.mem_cons_self ..) (no_minus (n := a))
  | negSucc a => cases j with
    | ofNat b =>
      rw [nat_list, neg_list] at h
      exact absurd (by rw [<- h]; exact List.mem_cons_self ..) (no_minus (n := b))
    | negSucc b =>
      rw [neg_list, neg_list, List.cons.injEq] at h
      have := dig_inj h.2
      rw [show a = b by omega]
theorem sgI_mem {i : Int} {k : Nat} (h : k ∈ sgI i) : k = 45 \/ (48 <= k /\ k <= 57) := by
  obtain ⟨c, hc, e⟩ := List.mem_map.mp h
  rcases PyProof.Rows.int_sign i c hc with q | q
  · have := PyProof.Rows.digit_range q; omega
  · subst q; left; rw [<- e]; decide
theorem sgI_ne {i : Int} : sgI i ≠ [] := by
  intro h
  have h : (toString i).toList = [] := by
    unfold sgI at h
    exact List.map_eq_nil_iff.mp h
  cases i with
  | ofNat a => rw [nat_list] at h; exact absurd h (by simp)
  | negSucc a => rw [neg_list] at h; cases h
mutual
def sg : PyData -> List Nat
  | .none => [78, 111, 110, 101]
  | .bool true => [84, 114, 117, 101]
  | .bool false => [70, 97, 108, 115, 101]
  | .int i => sgI i
  | .str x => 39 :: (x.cps.toList ++ [39])
  | .list xs => 91 :: (sgs xs ++ [93])
  | .tuple xs => 40 :: (sgs xs ++ (if xs.length = 1 then [44, 41] else [41]))
  | .dict _ => []
def sgs : List PyData -> List Nat
  | [] => []
  | x :: r => sg x ++ sgr r
def sgr : List PyData -> List Nat
  | [] => []
  | x :: r => 44 :: 32 :: (sg x ++ sgr r)
end
theorem app_list (a b : Str) : (a ++ b).cps.toList = a.cps.toList ++ b.cps.toList := by
  rw [PySem.Str.cps_append, Array.toList_append]
theorem reprChar_low {q c : Nat} (hq : q = 39) (h : 32 <= c /\ c <= 126 /\ c ≠ 39 /\ c ≠ 92) : reprChar q c = [c] := by
  subst hq
  have : ∀ c : Fin 128, 32 <= c.val -> c.val <= 126 -> c.val ≠ 39 -> c.val ≠ 92 -> reprChar 39 c.val = [c.val] := by decide +kernel
  exact this ⟨c, by omega⟩ h.1 h.2.1 h.2.2.1 h.2.2.2
theorem low_fold (q : Nat) (hq : q = 39) : ∀ (l : List Nat) (acc : Array Nat), (l.all fun c => decide (32 <= c /\ c <= 126 /\ c ≠ 39 /\ c ≠ 92)) = true -> (l.foldl (fun out c => out ++ (reprChar q c).toArray) acc).toList = acc.toList ++ l
  | [], acc, _ => by simp
  | c :: l, acc, h => by
    rw [List.all_cons, Bool.and_eq_true] at h
    rw [List.foldl_cons, low_fold q hq l _ h.2, reprChar_low hq (of_decide_eq_true h.1)]
    simp
theorem low_repr {x : Str} (h : lowS x = true) : (reprText x).cps.toList = 39 :: (x.cps.toList ++ [39]) := by
  have hq : reprQuote x = 39 := by
    unfold reprQuote
    have : x.cps.contains 39 = false := by
      rw [Bool.eq_false_iff]
      intro z
      rw [Array.contains_iff_mem] at z
      have := List.all_eq_true.mp h 39 (Array.mem_toList_iff.mpr z)
      revert this; decide
    rw [this]
    rfl
  unfold reprText
  rw [hq]
  rw [<- Array.foldl_toList, Array.toList_push, low_fold 39 rfl _ _ h]
  simp
def after : List Str -> List Nat
  | [] => []
  | t :: r => 44 :: 32 :: (t.cps.toList ++ after r)
theorem from_after : ∀ (ts : List Str) (k : Nat) (acc : Str), 0 < k -> (textFrom k acc ts).cps.toList = acc.cps.toList ++ after ts
  | [], k, acc, _ => by show acc.cps.toList = _; rw [after, List.append_nil]
  | t :: r, k, acc, h => by
    show (textFrom (k + 1) (acc ++ ((if k > 0 then ", " else "" : String) : Str) ++ t) r).cps.toList = _
    rw [if_pos h, from_after r (k + 1) _ (Nat.succ_pos _), app_list, app_list, PyProof.Rows.signs_sep, after]
    simp
theorem join_after : ∀ (t : Str) (r : List Str), (Str.join ", " (t :: r)).cps.toList = t.cps.toList ++ after r
  | t, [] => by show t.cps.toList = _; rw [after, List.append_nil]
  | t, u :: r => by
    show (t ++ ((", " : String) : Str) ++ Str.join ", " (u :: r)).cps.toList = _
    rw [app_list, app_list, PyProof.Rows.signs_sep, join_after u r, after]
    simp
theorem listText_list : ∀ ts : List Str, (listText ts).cps.toList = 91 :: ((Str.join ", " ts).cps.toList ++ [93])
  | [] => by decide
  | t :: r => by
    show (textFrom 1 ((("[" : String) : Str) ++ ((if 0 > 0 then ", " else "" : String) : Str) ++ t) r ++ (("]" : String) : Str)).cps.toList = _
    rw [app_list, from_after r 1 _ (by decide), app_list, app_list, PyProof.Rows.signs_lbrack, PyProof.Rows.signs_rbrack, join_after]
    have : ((if 0 > 0 then ", " else "" : String) : Str).cps.toList = [] := by decide
    rw [this]
    simp
mutual
theorem sg_eq : ∀ {p : PyData}, nic p = true -> p.shown.cps.toList = sg p
  | .none, _ => by rw [PyData.shown_none, sg]; decide
  | .bool true, _ => by rw [PyData.shown_bool, sg]; decide
  | .bool false, _ => by rw [PyData.shown_bool, sg]; decide
  | .int i, _ => by rw [PyData.shown_int, sg]; exact PyProof.Rows.signs_ofString _
  | .str x, h => by rw [nic] at h; rw [PyData.shown, sg]; exact low_repr h
  | .list xs, h => by
    rw [nic] at h
    rw [PyData.shown, sg, listText_list, sgs_eq h]
  | .tuple xs, h => by
    rw [nic] at h
    rw [PyData.shown, sg]
    unfold tupleText
    rw [app_list, app_list, PyProof.Rows.signs_lparen, sgs_eq h]
    have : (PyData.shownAll xs).length = xs.length := by rw [PyProof.Rows.shownAll_eq_map, List.length_map]
    rw [this]
    by_cases e : xs.length = 1
    · rw [e]; rfl
    · rw [if_neg e]
      have : (xs.length == 1) = false := by simpa using e
      rw [this]; rfl
  | .dict _, h => by rw [nic] at h; cases h
theorem sgs_eq : ∀ {xs : List PyData}, nics xs = true -> (Str.join ", " (PyData.shownAll xs)).cps.toList = sgs xs
  | [], _ => by rw [PyData.shownAll_nil, sgs]; rfl
  | x :: r, h => by
    rw [nics, Bool.and_eq_true] at h
    rw [PyData.shownAll_cons, sgs, join_after, sg_eq h.1, sgr_eq h.2]
theorem sgr_eq : ∀ {r : List PyData}, nics r = true -> after (PyData.shownAll r) = sgr r
  | [], _ => by rw [PyData.shownAll_nil, sgr, after]
  | y :: r, h => by
    rw [nics, Bool.and_eq_true] at h
    rw [PyData.shownAll_cons, sgr, after, sg_eq h.1, sgr_eq h.2]
end
def Tm (u : List Nat) : Prop := u = [] \/ ∃ k r, u = k :: r /\ (k = 44 \/ k = 41 \/ k = 93)
theorem split_tm : ∀ {a b u v : List Nat}, (∀ k ∈ a, k ≠ 44 /\ k ≠ 41 /\ k ≠ 93) -> (∀ k ∈ b, k ≠ 44 /\ k ≠ 41 /\ k ≠ 93) -> Tm u -> Tm v -> a ++ u = b ++ v -> a = b /\ u = v
  | [], [], u, v, _, _, _, _, h => ⟨rfl, h⟩
  | [], y :: b, u, v, _, hb, tu, _, h => by
    have h : u = y :: (b ++ v) := h
    rcases tu with z | ⟨k, r, z, hk⟩
    · rw [z] at h; cases h
    · rw [z] at h; cases h
      have := hb _ (List.mem_cons_self ..); omega
  | x :: a, [], u, v, ha, _, _, tv, h => by
    have h : x :: (a ++ u) = v := h
    rcases tv with z | ⟨k, r, z, hk⟩
    · rw [z] at h; cases h
    · rw [z] at h; cases h
      have := ha _ (List.mem_cons_self ..); omega
  | x :: a, y :: b, u, v, ha, hb, tu, tv, h => by
    rw [List.cons_append, List.cons_append, List.cons.injEq] at h
    obtain ⟨e1, e2⟩ := split_tm (fun k hk => ha k (List.mem_cons_of_mem _ hk)) (fun k hk => hb k (List.mem_cons_of_mem _ hk)) tu tv h.2
    rw [h.1, e1]; exact ⟨rfl, e2⟩
theorem split_q : ∀ {a b u v : List Nat}, (∀ k ∈ a, k ≠ 39) -> (∀ k ∈ b, k ≠ 39) -> a ++ 39 :: u = b ++ 39 :: v -> a = b /\ u = v
  | [], [], u, v, _, _, h => by cases h; exact ⟨rfl, rfl⟩
  | [], y :: b, u, v, _, hb, h => by cases h; exact absurd rfl (hb 39 (List.mem_cons_self ..))
  | x :: a, [], u, v, ha, _, h => by cases h; exact absurd rfl (ha 39 (List.mem_cons_self ..))
  | x :: a, y :: b, u, v, ha, hb, h => by
    rw [List.cons_append, List.cons_append, List.cons.injEq] at h
    obtain ⟨e1, e2⟩ := split_q (fun k hk => ha k (List.mem_cons_of_mem _ hk)) (fun k hk => hb k (List.mem_cons_of_mem _ hk)) h.2
    rw [h.1, e1]; exact ⟨rfl, e2⟩
def kin0 : PyData -> Nat
  | .none => 0
  | .bool true => 1
  | .bool false => 2
  | .int _ => 3
  | .str _ => 4
  | .list _ => 5
  | .tuple _ => 6
  | .dict _ => 7
theorem sg_head : ∀ {p : PyData}, nic p = true -> ∃ k r, sg p = k :: r /\ ((kin0 p = 0 /\ k = 78) \/ (kin0 p = 1 /\ k = 84) \/ (kin0 p = 2 /\ k = 70) \/ (kin0 p = 3 /\ (k = 45 \/ (48 <= k /\ k <= 57))) \/ (kin0 p = 4 /\ k = 39) \/ (kin0 p = 5 /\ k = 91) \/ (kin0 p = 6 /\ k = 40))
  | .none, _ => ⟨78, _, by rw [sg], by simp [kin0]⟩
  | .bool true, _ => ⟨84, _, by rw [sg], by simp [kin0]⟩
  | .bool false, _ => ⟨70, _, by rw [sg], by simp [kin0]⟩
  | .int i, _ => by
    rw [sg]
    cases e : sgI i with
    | nil => exact absurd e sgI_ne
    | cons k r =>
      refine ⟨k, r, rfl, ?_⟩
      have := sgI_mem (i := i) (k := k) (by rw [e]; exact List.mem_cons_self ..)
      simp [kin0]; omega
  | .str x, _ => ⟨39, _, by rw [sg], by simp [kin0]⟩
  | .list xs, _ => ⟨91, _, by rw [sg], by simp [kin0]⟩
  | .tuple xs, _ => ⟨40, _, by rw [sg], by simp [kin0]⟩
  | .dict _, h => by rw [nic] at h; cases h
theorem kin_of {p q : PyData} (hp : nic p = true) (hq : nic q = true) {u v : List Nat} (h : sg p ++ u = sg q ++ v) : kin0 p = kin0 q := by
  obtain ⟨k, r, e1, h1⟩ := sg_head hp
  obtain ⟨l, s, e2, h2⟩ := sg_head hq
  rw [e1, e2, List.cons_append, List.cons_append, List.cons.injEq] at h
  omega
theorem low_no {x : Str} (h : lowS x = true) : ∀ k ∈ x.cps.toList, k ≠ 39 := fun k hk => by
  have := of_decide_eq_true (List.all_eq_true.mp h k hk)
  omega
theorem tm_r {r : List PyData} {w : List Nat} (h : Tm w) : Tm (sgr r ++ w) := by
  cases r with
  | nil => rw [sgr]; exact h
  | cons y r => rw [sgr]; exact .inr ⟨44, _, rfl, .inl rfl⟩
def Cl (w : List Nat) : Prop := ∃ r, w = 93 :: r \/ w = 41 :: r \/ w = 44 :: 41 :: r
theorem Cl.tm {w : List Nat} (h : Cl w) : Tm w := by
  obtain ⟨r, h | h | h⟩ := h
  · exact .inr ⟨_, _, h, by omega⟩
  · exact .inr ⟨_, _, h, by omega⟩
  · exact .inr ⟨_, _, h, by omega⟩
theorem cl_tup (n : Nat) (u : List Nat) : Cl ((if n = 1 then [44, 41] else [41]) ++ u) := by
  split
  · exact ⟨u, .inr (.inr rfl)⟩
  · exact ⟨u, .inr (.inl rfl)⟩
theorem sgs_not {xs : List PyData} (h : nics xs = true) {c : Nat} {w : List Nat} (hc : c = 93 \/ c = 41) (hx : xs ≠ []) : ¬ ∃ u, sgs xs ++ w = c :: u := by
  rintro ⟨u, e⟩
  cases xs with
  | nil => exact hx rfl
  | cons x r =>
    rw [nics, Bool.and_eq_true] at h
    obtain ⟨k, s, e1, h1⟩ := sg_head h.1
    rw [sgs, e1, List.cons_append, List.cons_append, List.cons.injEq] at e
    omega
mutual
theorem sg_inj : ∀ {p q : PyData} {u v : List Nat}, nic p = true -> nic q = true -> Tm u -> Tm v -> sg p ++ u = sg q ++ v -> p = q /\ u = v
  | .none, q, u, v, hp, hq, tu, tv, h => by
    have k := kin_of hp hq h
    cases q with
    | none => exact ⟨rfl, List.append_cancel_left h⟩
    | bool b => cases b <;> simp [kin0] at k
    | _ => simp [kin0] at k
  | .bool true, q, u, v, hp, hq, tu, tv, h => by
    have k := kin_of hp hq h
    cases q with
    | bool b => cases b with
      | true => exact ⟨rfl, List.append_cancel_left h⟩
      | false => simp [kin0] at k
    | _ => simp [kin0] at k
  | .bool false, q, u, v, hp, hq, tu, tv, h => by
    have k := kin_of hp hq h
    cases q with
    | bool b => cases b with
      | false => exact ⟨rfl, List.append_cancel_left h⟩
      | true => simp [kin0] at k
    | _ => simp [kin0] at k
  | .int i, q, u, v, hp, hq, tu, tv, h => by
    have k := kin_of hp hq h
    cases q with
    | int j =>
      rw [sg, sg] at h
      have no : ∀ (i : Int), ∀ k ∈ sgI i, k ≠ 44 /\ k ≠ 41 /\ k ≠ 93 := fun i k hk => by have := sgI_mem hk; omega
      obtain ⟨e1, e2⟩ := split_tm (no i) (no j) tu tv h
      rw [sgI_inj e1]; exact ⟨rfl, e2⟩
    | bool b => cases b <;> simp [kin0] at k
    | _ => simp [kin0] at k
  | .str x, q, u, v, hp, hq, tu, tv, h => by
    have k := kin_of hp hq h
    cases q with
    | str y =>
      rw [nic] at hp hq
      rw [sg, sg, List.cons_append, List.cons_append, List.cons.injEq, List.append_assoc, List.append_assoc] at h
      obtain ⟨e1, e2⟩ := split_q (low_no hp) (low_no hq) h.2
      have : x = y := by
        cases x; cases y
        rw [PySem.Str.mk.injEq]
        exact Array.toList_inj.mp e1
      rw [this]; exact ⟨rfl, e2⟩
    | bool b => cases b <;> simp [kin0] at k
    | _ => simp [kin0] at k
  | .list xs, q, u, v, hp, hq, tu, tv, h => by
    have k := kin_of hp hq h
    cases q with
    | list ys =>
      rw [nic] at hp hq
      rw [sg, sg, List.cons_append, List.cons_append, List.cons.injEq, List.append_assoc, List.append_assoc] at h
      obtain ⟨e1, e2⟩ := sgs_inj (w := [93] ++ u) (w' := [93] ++ v) hp hq ⟨u, .inl rfl⟩ ⟨v, .inl rfl⟩ h.2
      rw [e1]; exact ⟨rfl, List.append_cancel_left e2⟩
    | bool b => cases b <;> simp [kin0] at k
    | _ => simp [kin0] at k
  | .tuple xs, q, u, v, hp, hq, tu, tv, h => by
    have k := kin_of hp hq h
    cases q with
    | tuple ys =>
      rw [nic] at hp hq
      rw [sg, sg, List.cons_append, List.cons_append, List.cons.injEq, List.append_assoc, List.append_assoc] at h
      obtain ⟨e1, e2⟩ := sgs_inj hp hq (cl_tup _ u) (cl_tup _ v) h.2
      rw [e1] at e2 ⊢
      exact ⟨rfl, List.append_cancel_left e2⟩
    | bool b => cases b <;> simp [kin0] at k
    | _ => simp [kin0] at k
  | .dict _, q, u, v, hp, hq, tu, tv, h => by rw [nic] at hp; cases hp
theorem sgs_inj : ∀ {xs ys : List PyData} {w w' : List Nat}, nics xs = true -> nics ys = true -> Cl w -> Cl w' -> sgs xs ++ w = sgs ys ++ w' -> xs = ys /\ w = w'
  | [], [], w, w', _, _, _, _, h => ⟨rfl, by rw [sgs] at h; exact h⟩
  | [], y :: ys, w, w', _, hy, c, c', h => by
    rw [sgs.eq_def [], List.nil_append] at h
    obtain ⟨r, z | z | z⟩ := c
    · exact absurd ⟨r, by rw [<- h, z]⟩ (sgs_not hy (.inl rfl) (by simp) (w := w'))
    · exact absurd ⟨r, by rw [<- h, z]⟩ (sgs_not hy (.inr rfl) (by simp) (w := w'))
    · rw [nics, Bool.and_eq_true] at hy
      obtain ⟨k, s, e1, h1⟩ := sg_head hy.1
      rw [z, sgs, e1, List.cons_append, List.cons_append, List.cons.injEq] at h
      omega
  | x :: xs, [], w, w', hx, _, c, c', h => by
    rw [sgs.eq_def [], List.nil_append] at h
    obtain ⟨r, z | z | z⟩ := c'
    · exact absurd ⟨r, by rw [h, z]⟩ (sgs_not hx (.inl rfl) (by simp) (w := w))
    · exact absurd ⟨r, by rw [h, z]⟩ (sgs_not hx (.inr rfl) (by simp) (w := w))
    · rw [nics, Bool.and_eq_true] at hx
      obtain ⟨k, s, e1, h1⟩ := sg_head hx.1
      rw [z, sgs, e1, List.cons_append, List.cons_append, List.cons.injEq] at h
      omega
  | x :: xs, y :: ys, w, w', hx, hy, c, c', h => by
    rw [nics, Bool.and_eq_true] at hx hy
    rw [sgs, sgs, List.append_assoc, List.append_assoc] at h
    obtain ⟨e1, e2⟩ := sg_inj hx.1 hy.1 (tm_r c.tm) (tm_r c'.tm) h
    obtain ⟨e3, e4⟩ := sgr_inj hx.2 hy.2 c c' e2
    rw [e1, e3]; exact ⟨rfl, e4⟩
theorem sgr_inj : ∀ {xs ys : List PyData} {w w' : List Nat}, nics xs = true -> nics ys = true -> Cl w -> Cl w' -> sgr xs ++ w = sgr ys ++ w' -> xs = ys /\ w = w'
  | [], [], w, w', _, _, _, _, h => ⟨rfl, by rw [sgr] at h; exact h⟩
  | [], y :: ys, w, w', _, hy, c, c', h => by
    rw [sgr.eq_def [], List.nil_append, sgr] at h
    obtain ⟨r, z | z | z⟩ := c <;> (rw [z] at h; simp at h)
  | x :: xs, [], w, w', hx, _, c, c', h => by
    rw [sgr.eq_def [], List.nil_append, sgr] at h
    obtain ⟨r, z | z | z⟩ := c' <;> (rw [z] at h; simp at h)
  | x :: xs, y :: ys, w, w', hx, hy, c, c', h => by
    rw [nics, Bool.and_eq_true] at hx hy
    rw [sgr, sgr, List.cons_append, List.cons_append, List.cons_append, List.cons_append, List.cons.injEq, List.cons.injEq, List.append_assoc, List.append_assoc] at h
    obtain ⟨e1, e2⟩ := sg_inj hx.1 hy.1 (tm_r c.tm) (tm_r c'.tm) h.2.2
    obtain ⟨e3, e4⟩ := sgr_inj hx.2 hy.2 c c' e2
    rw [e1, e3]; exact ⟨rfl, e4⟩
end
theorem shown_inj {p q : PyData} (hp : nic p = true) (hq : nic q = true) (h : p.shown = q.shown) : p = q := by
  refine (sg_inj (u := []) (v := []) hp hq (.inl rfl) (.inl rfl) ?_).1
  rw [List.append_nil, List.append_nil, <- sg_eq hp, <- sg_eq hq, h]
end MI
namespace MI
open PySem PySem.Spec L2
mutual
theorem nic_show : ∀ {p : PyData}, nic p = true -> p.showable = true /\ p.hasDict = false /\ p.leavesShort 1921 = true
  | .none, _ => by simp [PyData.showable, PyData.hasDict, PyData.leavesShort]
  | .bool _, _ => by simp [PyData.showable, PyData.hasDict, PyData.leavesShort]
  | .int i, h => by
    rw [nic] at h
    refine ⟨by rw [PyData.showable]; exact h, by rw [PyData.hasDict], ?_⟩
    rw [PyData.leavesShort, decide_eq_true_eq, PyData.shown_int]
    exact PyProof.Rows.int_text_len_1921 (of_decide_eq_true h)
  | .str x, h => by
    rw [nic] at h
    refine ⟨by rw [PyData.showable], by rw [PyData.hasDict], ?_⟩
    rw [PyData.leavesShort, List.all_eq_true]
    intro c hc
    have := of_decide_eq_true (List.all_eq_true.mp h c hc)
    exact decide_eq_true (by omega)
  | .list xs, h => by
    rw [nic] at h
    obtain ⟨h1, h2, h3⟩ := nics_show h
    exact ⟨by rw [PyData.showable]; exact h1, by rw [PyData.hasDict]; exact h2, by rw [PyData.leavesShort]; exact h3⟩
  | .tuple xs, h => by
    rw [nic] at h
    obtain ⟨h1, h2, h3⟩ := nics_show h
    exact ⟨by rw [PyData.showable]; exact h1, by rw [PyData.hasDict]; exact h2, by rw [PyData.leavesShort]; exact h3⟩
  | .dict _, h => by rw [nic] at h; cases h
theorem nics_show : ∀ {ps : List PyData}, nics ps = true -> PyData.showableAll ps = true /\ PyData.hasDictAll ps = false /\ PyData.leavesShortAll 1921 ps = true
  | [], _ => by simp [PyData.showableAll, PyData.hasDictAll, PyData.leavesShortAll]
  | p :: ps, h => by
    rw [nics, Bool.and_eq_true] at h
    obtain ⟨a1, a2, a3⟩ := nic_show h.1
    obtain ⟨b1, b2, b3⟩ := nics_show h.2
    exact ⟨by rw [PyData.showableAll, a1, b1]; rfl, by rw [PyData.hasDictAll, a2, b2]; rfl, by rw [PyData.leavesShortAll, a3, b3]; rfl⟩
end
mutual
theorem sg_small : ∀ {p : PyData}, nic p = true -> ∀ k ∈ sg p, k < 128
  | .none, _, k, hk => by rw [sg] at hk; simp at hk; omega
  | .bool true, _, k, hk => by rw [sg] at hk; simp at hk; omega
  | .bool false, _, k, hk => by rw [sg] at hk; simp at hk; omega
  | .int i, _, k, hk => by rw [sg] at hk; have := sgI_mem hk; omega
  | .str x, h, k, hk => by
    rw [nic] at h
    rw [sg, List.mem_cons, List.mem_append, List.mem_singleton] at hk
    rcases hk with z | z | z
    · omega
    · have := of_decide_eq_true (List.all_eq_true.mp h k z); omega
    · omega
  | .list xs, h, k, hk => by
    rw [nic] at h
    rw [sg, List.mem_cons, List.mem_append, List.mem_singleton] at hk
    rcases hk with z | z | z
    · omega
    · exact sgs_small h k z
    · omega
  | .tuple xs, h, k, hk => by
    rw [nic] at h
    rw [sg, List.mem_cons, List.mem_append] at hk
    rcases hk with z | z | z
    · omega
    · exact sgs_small h k z
    · split at z
      · simp at z; omega
      · simp at z; omega
  | .dict _, h, _, _ => by rw [nic] at h; cases h
theorem sgs_small : ∀ {ps : List PyData}, nics ps = true -> ∀ k ∈ sgs ps, k < 128
  | [], _, k, hk => by rw [sgs] at hk; cases hk
  | p :: ps, h, k, hk => by
    rw [nics, Bool.and_eq_true] at h
    rw [sgs, List.mem_append] at hk
    rcases hk with z | z
    · exact sg_small h.1 k z
    · exact sgr_small h.2 k z
theorem sgr_small : ∀ {ps : List PyData}, nics ps = true -> ∀ k ∈ sgr ps, k < 128
  | [], _, k, hk => by rw [sgr] at hk; cases hk
  | p :: ps, h, k, hk => by
    rw [nics, Bool.and_eq_true] at h
    rw [sgr, List.mem_cons, List.mem_cons, List.mem_append] at hk
    rcases hk with z | z | z | z
    · omega
    · omega
    · exact sg_small h.1 k z
    · exact sgr_small h.2 k z
end
def rok (d : D) : Bool := match toPy d with
  | some p => nic p && (decide (p.depth <= 16) && decide (p.bulk <= 8000))
  | none => false
def sh (d : D) : Str := match toPy d with
  | some p => p.shown
  | none => Str.empty
theorem rok_of {d : D} (h : rok d = true) : ∃ p, toPy d = some p /\ nic p = true /\ p.depth <= 16 /\ p.bulk <= 8000 /\ sh d = p.shown := by
  unfold rok at h
  split at h
  · next p e =>
    simp only [Bool.and_eq_true, decide_eq_true_eq] at h
    exact ⟨p, e, h.1, h.2.1, h.2.2, by unfold sh; rw [e]⟩
  · cases h
theorem gRepr_ok {d : D} (h : rok d = true) : gRepr [d] = some (.str (sh d)) := by
  obtain ⟨p, e, n, h1, h2, hs⟩ := rok_of h
  obtain ⟨a1, a2, a3⟩ := nic_show n
  have hl := PyData.shown_le_bulk 1921 (by decide) p a3
  have : p.shown.length <= sizeLine := by unfold sizeLine; omega
  rw [hs]
  unfold gRepr
  simp only [e, a1, a2]
  rw [decide_eq_true h1, decide_eq_true this]
  rfl
theorem okE_sh {d : D} (h : rok d = true) : okE (.str (sh d)) = some (.str (sh d)) := by
  obtain ⟨p, e, n, h1, h2, hs⟩ := rok_of h
  have : SeqAt.shaped (.str (sh d)) = true := by
    unfold SeqAt.shaped
    have : PyData.canLay0 (.str (sh d)) = true := by
      rw [PyData.canLay0, PyData.strOk, <- Array.all_toList, List.all_eq_true]
      intro k hk
      rw [hs, sg_eq n] at hk
      have := sg_small n k hk
      exact decide_eq_true (by omega)
    rw [this, PyData.depth]
    rfl
  unfold okE
  simp only [toPy]
  rw [if_pos this]
mutual
theorem toPy_inj : ∀ {a b : D} {p : PyData}, toPy a = some p -> toPy b = some p -> a = b
  | .non, b, p, h1, h2 => by cases h1; cases b <;> simp [toPy] at h2 <;> first | rfl | skip
  | .bl x, b, p, h1, h2 => by cases h1; cases b <;> simp [toPy] at h2 <;> first | (rw [h2]) | skip
  | .int x, b, p, h1, h2 => by cases h1; cases b <;> simp [toPy] at h2 <;> first | (rw [h2]) | skip
  | .str x, b, p, h1, h2 => by cases h1; cases b <;> simp [toPy] at h2 <;> first | (rw [h2]) | skip
  | .tup xs, b, p, h1, h2 => by
    rw [toPy, Option.map_eq_some_iff] at h1
    obtain ⟨ps, e1, rfl⟩ := h1
    cases b <;> simp [toPy] at h2
    rw [toPys_inj e1 h2]
  | .lst xs, b, p, h1, h2 => by
    rw [toPy, Option.map_eq_some_iff] at h1
    obtain ⟨ps, e1, rfl⟩ := h1
    cases b <;> simp [toPy] at h2
    rw [toPys_inj e1 h2]
  | .dic _, b, p, h1, h2 => by simp [toPy] at h1
  | .dit _, b, p, h1, h2 => by simp [toPy] at h1
  | .set _, b, p, h1, h2 => by simp [toPy] at h1
  | .obj _, b, p, h1, h2 => by simp [toPy] at h1
  | .scr _, b, p, h1, h2 => by simp [toPy] at h1
theorem toPys_inj : ∀ {a b : List D} {p : List PyData}, toPys a = some p -> toPys b = some p -> a = b
  | [], b, p, h1, h2 => by
    cases h1
    cases b with
    | nil => rfl
    | cons y b => obtain ⟨_, _, _, _, z⟩ := toPys_cons h2; cases z
  | x :: a, b, p, h1, h2 => by
    obtain ⟨p1, ps1, e1, e2, rfl⟩ := toPys_cons h1
    cases b with
    | nil => cases h2
    | cons y b =>
      obtain ⟨p2, ps2, e3, e4, z⟩ := toPys_cons h2
      cases z
      rw [toPy_inj e1 e3, toPys_inj e2 e4]
end
theorem sh_inj {a b : D} (ha : rok a = true) (hb : rok b = true) (h : sh a = sh b) : a = b := by
  obtain ⟨p, e, n, _, _, hs⟩ := rok_of ha
  obtain ⟨q, f, m, _, _, ht⟩ := rok_of hb
  rw [hs, ht] at h
  have := shown_inj n m h
  subst this
  exact toPy_inj e f
theorem eqB_sh {a b : D} (ha : rok a = true) (hb : rok b = true) : ∃ c, eqB (.str (sh a)) (.str (sh b)) = some c /\ (c = true ↔ a = b) := by
  unfold eqB
  rw [okE_sh ha, okE_sh hb]
  refine ⟨_, rfl, ?_⟩
  rw [PyData.eqv, beq_iff_eq]
  exact ⟨sh_inj ha hb, fun h => by rw [h]⟩
theorem gEq_same {a : D} (ha : rok a = true) : gEq (.str (sh a)) (.str (sh a)) = some (.bl true) := by
  obtain ⟨c, e, h⟩ := eqB_sh ha ha
  unfold gEq
  rw [e, h.mpr rfl]; rfl
end MI
namespace MI
open PySem PySem.Spec L2 PyProof.Rows
inductive Ty where
  | non | bl | int | str | tup | lst | dic
  deriving DecidableEq
def Ty.nm : Ty -> String
  | .non => "NoneType" | .bl => "bool" | .int => "int" | .str => "str" | .tup => "tuple" | .lst => "list" | .dic => "dict"
def tyD : D -> Option Ty
  | .non => some .non | .bl _ => some .bl | .int _ => some .int | .str _ => some .str | .tup _ => some .tup | .lst _ => some .lst | .dic _ => some .dic
  | _ => none
def isTy : Ty -> Ty -> Bool
  | .bl, .int => true
  | .non, .non => true | .bl, .bl => true | .int, .int => true | .str, .str => true | .tup, .tup => true | .lst, .lst => true | .dic, .dic => true
  | _, _ => false
def gIsi (T : Ty) (d : D) : Option D := match tyD d with
  | some t => some (.bl (isTy t T))
  | none => none
theorem bt_isi : bootBuiltins "isinstance" = some (.builtin "isinstance") := by decide +kernel
theorem bt_bool : bootBuiltins "bool" = some (.type "bool") := by decide +kernel
theorem bt_str : bootBuiltins "str" = some (.type "str") := by decide +kernel
theorem kit_is (t T : Ty) (h : T ≠ .non) : kitB t.nm T.nm = some (isTy t T) := by
  cases T with
  | non => exact absurd rfl h
  | bl => cases t <;> decide +kernel
  | int => cases t <;> decide +kernel
  | str => cases t <;> decide +kernel
  | tup => cases t <;> decide +kernel
  | lst => cases t <;> decide +kernel
  | dic => cases t <;> decide +kernel
section
variable {X : Cx} {cls : Nat -> Addr} {own : Nat -> Bool} {K : KX} {a : Expr} {fa : Den Hd} {x : Str} {p p2 pos : Pos} {T : Ty}
theorem pe_blt {t : String} (hg : Gl X x) (hm : X.mg x = none) (hv : bootBuiltins x = some (.type t)) (hn : x ≠ "__name__" := by decide) (hd : (x == ("__debug__" : Str)) = false := by decide) : PE X (.Name x pos) (tC (.ty t)) :=
  ⟨fun pins s σ H Q I h => ld_blt I hg hm hv ⟨.ty t, H, I, rfl, h⟩ hn hd⟩
theorem ty_of {H Z : Hp} {al : List Addr} {v : V} {d : D} {t : Ty} (s : Same Z H) (h : CR K H Z al v d) (e : tyD d = some t) : TyX K.K H v (.type t.nm) := by
  cases d with
  | non => cases e; cases h.non; exact .base .non
  | bl c => cases e; cases h.bl; exact .base (.bl _)
  | int c => cases e; cases h.int; exact .base (.int _)
  | str c => cases e; cases h.str; exact .base (.str _)
  | tup ds =>
    cases e
    obtain ⟨p, xs, rfl, h1, c1⟩ := h.tup
    rcases Same.tupN s h1 with ⟨o, _, h1⟩ | ⟨o, its, n, _, lk, hc, _⟩
    · exact .fTuple h1
    · exact .kTuple lk hc
  | lst ds =>
    cases e
    obtain ⟨p, xs, rfl, h1, c1⟩ := h
    exact .base (.lst h1)
  | dic ds =>
    cases e
    obtain ⟨p, kvs, rfl, h1, _⟩ := h
    rcases h1 with h1 | ⟨o, h1⟩
    · exact .base (.dK h1)
    · exact .fDict h1
  | _ => cases e
theorem se_isi (hT : T ≠ .non) (hg1 : Gl X "isinstance") (hm1 : X.mg "isinstance" = none) (hg2 : Gl X x) (hm2 : X.mg x = none) (hv : bootBuiltins x = some (.type T.nm)) (ha : SH cls own X a fa)
    (hn : x ≠ "__name__" := by decide) (hd : (x == ("__debug__" : Str)) = false := by decide)
    (s1 : starEach [a, .Name x p2] X.env = (false, eval a X.env) :: starEach [.Name x p2] X.env := by rfl) (s2 : starEach [.Name x p2] X.env = (false, eval (.Name x p2) X.env) :: starEach [] X.env := by rfl)
    (q1 : (backTo pos (starEach [.Name x p2] X.env)).any (·.1) = false := by rfl) :
    SE cls own X (.Call (.Name "isinstance" p) [a, .Name x p2] [] pos) (eUn (gIsi T) fa) := by
  refine pe_imp (pe_callB call_isi hg1 hm1 bt_isi (pa_cons ha (pa_cons (pe_blt hg2 hm2 hv hn hd) pa_nil s2) s1) (by decide) (by decide) s1 q1) fun σ H Q q => ?_
  obtain ⟨G, al, m, d, m', r, e, k⟩ := q
  obtain ⟨h1, y, e1, l1, gz⟩ := eUn_ok e
  refine ⟨G, al, m, h1, m', r, e1, fun G1 al1 v H1 ev1 r1 hv1 => ?_⟩
  have cr := look_cr r1 hv1 l1
  unfold gIsi at gz
  split at gz
  · next t et =>
    cases gz
    exact ⟨v, .ty T.nm, .type t.nm, .type T.nm, isTy t T, rfl, .ty _, ty_of r1.zh cr et, kit_ty (kit_is t T hT), k G1 al1 _ H1 ev1 r1 (.bl _)⟩
  · cases gz
end
section
variable {X : Cx} {cls : Nat -> Addr} {own : Nat -> Bool} {K : KX} {e st : Expr} {te : TE} {fa : Den Hd} {p p2 pos : Pos}
theorem pe_m1 {j q1 q2} : PE X (.UnaryOp .USub (.Constant (.int 1) j q1) q2) (tC (.int (-1))) := by
  have h := pe_un (pos := q2) un_neg (pe_int (X := X) (i := 1) (j := j) (pos := q1))
  exact pe_imp h fun σ H Q q => ⟨1, rfl, q⟩
end
end MI
namespace MI
open PySem PySem.Spec L2
theorem RD.rok {n b : Nat} {d : D} (h : RD n b d) (hn : n <= 16 := by decide) (hb : b <= 8000 := by decide) : rok d = true := by
  obtain ⟨p, e, h1, h2, h3⟩ := h
  unfold MI.rok
  rw [e]
  simp only [h1, Bool.true_and, Bool.and_eq_true, decide_eq_true_eq]
  omega
theorem RD.bl {c : Bool} {n b : Nat} : RD n b (.bl c) := ⟨.bool c, by rw [toPy], by rw [nic], by rw [PyData.depth]; exact Nat.zero_le _, by rw [PyData.bulk]; exact Nat.zero_le _⟩
theorem RD.non {n b : Nat} : RD n b .non := ⟨.none, by rw [toPy], by rw [nic], by rw [PyData.depth]; exact Nat.zero_le _, by rw [PyData.bulk]; exact Nat.zero_le _⟩
theorem RD.lst {n b l : Nat} {ds : List D} (h : ∀ d ∈ ds, RD n b d) (hl : ds.length <= l) : RD (n + 1) ((b + 1) * l) (.lst ds) := by
  obtain ⟨ps, f, g1, g2, g3⟩ := RDs h
  refine ⟨.list ps, by rw [toPy, f]; rfl, by rw [nic]; exact g1, by rw [PyData.depth]; omega, ?_⟩
  rw [PyData.bulk]
  exact Nat.le_trans g3 (Nat.mul_le_mul_left _ hl)
mutual
theorem nic_lay : ∀ {p : PyData}, nic p = true -> p.canLay0 = true
  | .none, _ => by rw [PyData.canLay0]
  | .bool _, _ => by rw [PyData.canLay0]
  | .int _, _ => by rw [PyData.canLay0]
  | .str x, h => by
    rw [nic] at h
    rw [PyData.canLay0, PyData.strOk, <- Array.all_toList, List.all_eq_true]
    intro k hk
    have := of_decide_eq_true (List.all_eq_true.mp h k hk)
    exact decide_eq_true (by omega)
  | .list xs, h => by rw [nic] at h; rw [PyData.canLay0]; exact nics_lay h
  | .tuple xs, h => by rw [nic] at h; rw [PyData.canLay0]; exact nics_lay h
  | .dict _, h => by rw [nic] at h; cases h
theorem nics_lay : ∀ {ps : List PyData}, nics ps = true -> PyData.canLayAll0 ps = true
  | [], _ => by rw [PyData.canLayAll0]
  | p :: ps, h => by
    rw [nics, Bool.and_eq_true] at h
    rw [PyData.canLayAll0, nic_lay h.1, nics_lay h.2]; rfl
end
theorem RD.okE {n b : Nat} {d : D} (h : RD n b d) (hn : n <= 64 := by decide) : ∃ p, okE d = some p /\ toPy d = some p := by
  obtain ⟨p, e, h1, h2, h3⟩ := h
  refine ⟨p, ?_, e⟩
  unfold MI.okE
  rw [e]
  have : SeqAt.shaped p = true := by
    unfold SeqAt.shaped
    rw [nic_lay h1, Bool.true_and, decide_eq_true_eq]
    omega
  simp only [this, if_true]
mutual
theorem eqv_eq : ∀ {p q : PyData}, noB p = true -> noB q = true -> (PyData.eqv p q = true ↔ p = q)
  | .none, q, _, hq => by cases q <;> simp_all [PyData.eqv, noB]
  | .bool _, q, hp, _ => by rw [noB] at hp; cases hp
  | .int i, q, _, hq => by cases q <;> simp_all [PyData.eqv, noB]
  | .str x, q, _, hq => by cases q <;> simp_all [PyData.eqv, noB]
  | .list xs, q, hp, hq => by
    cases q <;> simp [PyData.eqv]
    next ys => rw [noB] at hp hq; exact eqvs_eq hp hq
  | .tuple xs, q, hp, hq => by
    cases q <;> simp [PyData.eqv]
    next ys => rw [noB] at hp hq; exact eqvs_eq hp hq
  | .dict _, q, hp, _ => by rw [noB] at hp; cases hp
theorem eqvs_eq : ∀ {ps qs : List PyData}, noBs ps = true -> noBs qs = true -> (PyData.eqvAll ps qs = true ↔ ps = qs)
  | [], [], _, _ => by simp [PyData.eqvAll]
  | [], _ :: _, _, _ => by simp [PyData.eqvAll]
  | _ :: _, [], _, _ => by simp [PyData.eqvAll]
  | p :: ps, q :: qs, hp, hq => by
    rw [noBs, Bool.and_eq_true] at hp hq
    rw [PyData.eqvAll, Bool.and_eq_true, eqv_eq hp.1 hq.1, eqvs_eq hp.2 hq.2, List.cons.injEq]
end
mutual
theorem eqv_refl : ∀ {p : PyData}, p.hasDict = false -> PyData.eqv p p = true
  | .none, _ => by simp [PyData.eqv]
  | .bool _, _ => by simp [PyData.eqv]
  | .int _, _ => by simp [PyData.eqv]
  | .str _, _ => by simp [PyData.eqv]
  | .list xs, h => by rw [PyData.hasDict] at h; rw [PyData.eqv]; exact eqvs_refl h
  | .tuple xs, h => by rw [PyData.hasDict] at h; rw [PyData.eqv]; exact eqvs_refl h
  | .dict _, h => by rw [PyData.hasDict] at h; cases h
theorem eqvs_refl : ∀ {ps : List PyData}, PyData.hasDictAll ps = false -> PyData.eqvAll ps ps = true
  | [], _ => by simp [PyData.eqvAll]
  | p :: ps, h => by
    rw [PyData.hasDictAll, Bool.or_eq_false_iff] at h
    rw [PyData.eqvAll, eqv_refl h.1, eqvs_refl h.2]; rfl
end
theorem RN.lst {n b l : Nat} {ds : List D} (h : ∀ d ∈ ds, RN n b d) (hl : ds.length <= l) : RN (n + 1) ((b + 1) * l) (.lst ds) := by
  obtain ⟨p, e, g1, g2, g3⟩ := RD.lst (fun d hd => (h d hd).rd) hl
  obtain ⟨ps, f, g4⟩ := RNs h
  rw [toPy, f] at e
  cases e
  exact ⟨.list ps, by rw [toPy, f]; rfl, g1, g2, g3, by rw [noB]; exact g4⟩
theorem eqB_RN {n b n' b' : Nat} {x y : D} (hx : RN n b x) (hy : RN n' b' y) (h1 : n <= 64 := by decide) (h2 : n' <= 64 := by decide) : ∃ c, eqB x y = some c /\ (c = true ↔ x = y) := by
  obtain ⟨p, e1, f1⟩ := hx.rd.okE h1
  obtain ⟨q, e2, f2⟩ := hy.rd.okE h2
  obtain ⟨p', g1, _, _, _, n1⟩ := hx
  obtain ⟨q', g2, _, _, _, n2⟩ := hy
  rw [f1] at g1; cases g1
  rw [f2] at g2; cases g2
  unfold eqB
  rw [e1, e2]
  refine ⟨_, rfl, ?_⟩
  rw [eqv_eq n1 n2]
  exact ⟨fun h => by subst h; exact toPy_inj f1 f2, fun h => by subst h; rw [f1] at f2; exact Option.some.inj f2⟩
theorem any_mem {ds : List D} {x : D} {p : PyData} : ∀ {ps : List PyData}, toPys ds = some ps -> toPy x = some p -> (∀ q ∈ ps, PyData.eqv q p = true ↔ q = p) -> (ps.any (fun z => PyData.eqv z p) = true ↔ x ∈ ds) := by
  induction ds with
  | nil => intro ps h _ _; rw [toPys] at h; cases h; simp
  | cons d ds ih =>
    intro ps h hx he
    obtain ⟨q, qs, h1, h2, rfl⟩ := toPys_cons h
    rw [List.any_cons, Bool.or_eq_true, he q (List.mem_cons_self ..), ih h2 hx fun z hz => he z (List.mem_cons_of_mem _ hz), List.mem_cons]
    constructor
    · rintro (z | z)
      · left; subst z; exact toPy_inj hx h1
      · exact .inr z
    · rintro (z | z)
      · left; subst z; rw [h1] at hx; exact Option.some.inj hx
      · exact .inr z
theorem noBs_mem : ∀ {ps : List PyData}, noBs ps = true -> ∀ q ∈ ps, noB q = true
  | [], _, q, hq => by cases hq
  | p :: ps, h, q, hq => by
    rw [noBs, Bool.and_eq_true] at h
    rcases List.mem_cons.mp hq with z | z
    · rw [z]; exact h.1
    · exact noBs_mem h.2 q z
theorem gIn_tup {n b n' b' : Nat} {x : D} {ds : List D} (hx : RN n b x) (hd : RN n' b' (.tup ds)) (h1 : n <= 64 := by decide) (h2 : n' <= 64 := by decide) : ∃ c, gInA x (.tup ds) = some (.bl c) /\ gNotInA x (.tup ds) = some (.bl !c) /\ (c = true ↔ x ∈ ds) := by
  obtain ⟨p, e1, f1⟩ := hx.rd.okE h1
  obtain ⟨q, e2, f2⟩ := hd.rd.okE h2
  obtain ⟨p', g1, _, _, _, n1⟩ := hx
  obtain ⟨q', g2, _, _, _, n2⟩ := hd
  rw [f1] at g1; cases g1
  rw [f2] at g2; cases g2
  rw [toPy, Option.map_eq_some_iff] at f2
  obtain ⟨ps, f3, rfl⟩ := f2
  rw [noB] at n2
  have e : gIn x (.tup ds) = some (ps.any fun z => PyData.eqv z p) := by unfold gIn; simp only [e1, e2]
  refine ⟨ps.any fun z => PyData.eqv z p, by show gInD _ _ = _; unfold gInD; rw [e]; rfl, by show gNotInD _ _ = _; unfold gNotInD; rw [e]; rfl, ?_⟩
  exact any_mem f3 f1 fun q hq => eqv_eq (noBs_mem n2 q hq) n1
theorem gIn_lst {n b n' b' : Nat} {x : D} {ds : List D} (hx : RN n b x) (hd : RN n' b' (.lst ds)) (h1 : n <= 64 := by decide) (h2 : n' <= 64 := by decide) : ∃ c, gInA x (.lst ds) = some (.bl c) /\ gNotInA x (.lst ds) = some (.bl !c) /\ (c = true ↔ x ∈ ds) := by
  obtain ⟨p, e1, f1⟩ := hx.rd.okE h1
  obtain ⟨q, e2, f2⟩ := hd.rd.okE h2
  obtain ⟨p', g1, _, _, _, n1⟩ := hx
  obtain ⟨q', g2, _, _, _, n2⟩ := hd
  rw [f1] at g1; cases g1
  rw [f2] at g2; cases g2
  rw [toPy, Option.map_eq_some_iff] at f2
  obtain ⟨ps, f3, rfl⟩ := f2
  rw [noB] at n2
  have e : gIn x (.lst ds) = some (ps.any fun z => PyData.eqv z p) := by unfold gIn; simp only [e1, e2]
  refine ⟨ps.any fun z => PyData.eqv z p, by show gInD _ _ = _; unfold gInD; rw [e]; rfl, by show gNotInD _ _ = _; unfold gNotInD; rw [e]; rfl, ?_⟩
  exact any_mem f3 f1 fun q hq => eqv_eq (noBs_mem n2 q hq) n1
section
variable {m : MS} {f : Den D} {h : Den Hd} {hs : Den (List Hd)} {po po2 : Den (Option Int)}
@[simp] theorem pNo_at : pNo m = .ok none m := rfl
@[simp] theorem pInt_at : pInt f m = match f m with
  | .ok d m1 => match d with
    | .int i => .ok (some i) m1
    | _ => .bad
  | .bad => .bad := by
  simp only [pInt, Den.bind]
  cases f m with
  | bad => rfl
  | ok d m1 => cases d <;> rfl
@[simp] theorem eCut_at : eCut h po po2 m = match h m with
  | .ok x m1 => match po m1 with
    | .ok lo m2 => match po2 m2 with
      | .ok hi m3 => match look x m3 with
        | some d => match gCut d lo hi with
          | some z => .ok z m3
          | none => .bad
        | none => .bad
      | .bad => .bad
    | .bad => .bad
  | .bad => .bad := by
  simp only [eCut, Den.bind]
  cases h m with
  | bad => rfl
  | ok x m1 =>
    try dsimp only
    all_goals
      cases po m1 with
      | bad => rfl
      | ok lo m2 =>
        try dsimp only
        all_goals
          cases po2 m2 with
          | bad => rfl
          | ok hi m3 => rfl
@[simp] theorem iRange1_at : iRange1 hs m = match hs m with
  | .ok xs m1 => match looksV xs with
    | some [.int j] => if smallI j then .ok (rangeD 0 j.toNat) m1 else .bad
    | _ => .bad
  | .bad => .bad := by
  simp only [iRange1, Den.bind]
  cases hs m with
  | bad => rfl
  | ok xs m1 => rfl
end
end MI
namespace MI
open PySem PySem.Spec L2
def sIt (t : Bool) (h : Heap) (it a : Addr) (i : Nat) : Prop := match t with
  | true => h.IsTupleIter it a i
  | false => h.IsListIter it a i
def sSq (t : Bool) (h : Heap) (a : Addr) (its : Array Value) : Prop := match t with
  | true => h.IsTuple a its
  | false => h.IsList a its
theorem sIt.obj {t : Bool} {h : Heap} {it a : Addr} {i : Nat} (s : sIt t h it a i) : ∃ o, h.get? it = some o /\ ∃ vs, o.data = .fields vs := by
  cases t with
  | true => obtain ⟨o, e, _, d⟩ := (show h.IsTupleIter it a i from s); exact ⟨o, e, _, d⟩
  | false => obtain ⟨o, e, _, d⟩ := (show h.IsListIter it a i from s); exact ⟨o, e, _, d⟩
theorem sSq.obj {t : Bool} {h : Heap} {a : Addr} {its : Array Value} (s : sSq t h a its) : ∃ o, h.get? a = some o /\ ∃ us n, o.data = .seq us n := by
  cases t with
  | true => obtain ⟨o, e, _, n, d⟩ := (show h.IsTuple a its from s); exact ⟨o, e, _, n, d⟩
  | false => obtain ⟨o, e, _, n, d⟩ := (show h.IsList a its from s); exact ⟨o, e, _, n, d⟩
def zipD : List D -> List D -> List D
  | x :: xs, y :: ys => .tup [x, y] :: zipD xs ys
  | _, _ => []
def seqD : D -> Option (Bool × List D)
  | .lst ds => some (false, ds)
  | .tup ds => some (true, ds)
  | _ => none
def iZip2 (f : Den (List Hd)) : Den (List D) := f.bind fun hs => fun m => match looksV hs with
  | some [a, b] => match seqD a, seqD b with
    | some (_, xs), some (_, ys) => .ok (zipD xs ys) m
    | _, _ => .bad
  | _ => .bad
section
variable {m : MS} {hs : Den (List Hd)}
@[simp] theorem iZip2_at : iZip2 hs m = match hs m with
  | .ok xs m1 => match looksV xs with
    | some [a, b] => match seqD a, seqD b with
      | some (_, us), some (_, vs) => .ok (zipD us vs) m1
      | _, _ => .bad
    | _ => .bad
  | .bad => .bad := by
  simp only [iZip2, Den.bind]
  cases hs m with
  | bad => rfl
  | ok xs m1 => rfl
end
end MI
namespace MI
open PySem PySem.Spec L2 PyProof.Rows
section
variable {prog : Program} {w : World} {A : Around} {E : Value -> Shared -> Prop}
theorem draw_lst {it l : Addr} {items : Array Value} (hne : l ≠ it) : ∀ (n i : Nat) (s : Shared) (Q : List Value -> Shared -> Prop), s.heap.IsListIter it l i -> s.heap.IsList l items -> i + n <= items.size ->
    (∀ h', h'.IsListIter it l (i + n) -> Heap.SameBut it s.heap h' -> Q ((items.toList.drop i).take n) { s with heap := h' }) -> wpAny (model prog w) A (draw (.ref it) n) Q E s
  | 0, i, s, Q, hit, _, _, k => by
    show wpAny _ _ (pure []) Q E s
    exact wpAny_pure (by simpa using k s.heap hit (Heap.SameBut.refl ..))
  | n + 1, i, s, Q, hit, hl, le, k => by
    have lt : i < items.size := by omega
    show wpAny _ _ (pyNext (.ref it) >>= _) Q E s
    refine wpAny_bind (wpAny_pyNext_list_item hit hl (x := items[i]) (by simp [lt]) fun h1 hit1 s1 => ?_)
    refine wpAny_bind (wpAny_holding (draw_lst hne n (i + 1) _ _ hit1 (hl.extBut s1.extBut hne) (by omega) fun h2 hit2 s2 => wpAny_pure ?_))
    have split : items.toList.drop i = items[i] :: items.toList.drop (i + 1) := by simp [List.drop_eq_getElem_cons, lt]
    have q := k h2 (by rw [show i + (n + 1) = i + 1 + n by omega]; exact hit2) (s1.trans s2)
    rw [split, List.take_succ_cons] at q
    exact q
variable {s : Shared}
theorem unpack_lst {l : Addr} {items : Array Value} {Q : List Value -> Shared -> Prop} (hh : A.handled = none) (hl : s.heap.IsList l items)
    (k : ∀ h', Heap.ExtBut s.heap.objs.size s.heap h' -> Q items.toList { s with heap := h' }) : wpAny (model prog w) A (unpackItems (.ref l) items.size none) Q E s := by
  have ne : l ≠ s.heap.objs.size := by obtain ⟨o, ho, _⟩ := hl; exact Nat.ne_of_lt (Heap.lt_size ho)
  have at0 : (s.heap.push { cls := .type "list_iterator", data := .fields #[.ref l, .int 0 0] }).IsListIter s.heap.objs.size l 0 := ⟨_, Heap.get?_push_size _ rfl, rfl, rfl⟩
  have hl1 : (s.heap.push { cls := .type "list_iterator", data := .fields #[.ref l, .int 0 0] }).IsList l items := by
    obtain ⟨o, e, c, d⟩ := hl
    exact ⟨o, Heap.get?_push_of_some _ e, c, d⟩
  unfold unpackItems notIterableAtAll
  refine wpAny_bind (wpAny_bind (wpAny_specialOf hl.typeIs slot_list_iter.lookup (wpAny_pure ?_)))
  simp only [Bool.false_eq_true, if_false]
  refine wpAny_bind (wpAny_holding (wpAny_pyIter_list hl (wpAny_bind (wpAny_holding (draw_lst ne items.size 0 _ _ at0 hl1 (by omega) fun h1 hit1 s1 => ?_)))))
  have all : List.take items.size (List.drop 0 items.toList) = items.toList := by
    rw [List.drop_zero]; exact List.take_of_length_le (by simp)
  rw [all, if_neg (by simp)]
  refine wpAny_bind (wpAny_holding (wpAny_pyNext_list_end hh hit1 (hl1.extBut s1.extBut ne) (by simp) fun h2 e2 => ?_))
  simp only [Option.isSome_none, Bool.false_eq_true, if_false]
  exact wpAny_pure (k h2 fun b o hb e => e2 b o hb (s1.extBut b o hb (Heap.get?_push_of_some _ e)))
theorem assign_lst {env : Env} {elts : List Expr} {x1} {pos : Pos} {l : Addr} {items : Array Value} {Q : Unit -> Shared -> Prop} (hh : A.handled = none) (hl : s.heap.IsList l items)
    (hn : (assignEach elts env).length = items.size) (hstar : (assignEach elts env).findIdx? (·.1) = none)
    (k : ∀ h', Heap.ExtBut s.heap.objs.size s.heap h' -> wpAny (model prog w) A (assignInOrder ((assignEach elts env).map (·.2)) items.toList) Q E { s with heap := h' }) :
    wpAny (model prog w) A (assign (.Tuple elts x1 pos) env (.ref l)) Q E s := by
  rw [assign_Tuple]
  refine wpAny_bind (wpAny_standAt ?_)
  unfold unpack
  rw [hn, hstar]
  exact wpAny_bind (wpAny_holding (unpack_lst hh hl k))
end
section
variable {X : Cx} {cls : Nat -> Addr} {own : Nat -> Bool} {es : List Expr} {tgs : List Tg} {pos : Pos}
def gTupL (K : PySem.W.Frag) (n : Nat) (t : TGs) : TG := fun v σ H Q => ∃ a xs, v = .ref a /\ SqL K H a xs /\ xs.length = n /\ t xs σ H Q
theorem pg_tupL {k : Nat} {t : TGs} {n : Nat} (hc : X.calm = true) (h : PGs X es t) (hn : (assignEach es X.env).length = n := by rfl) (hst : (assignEach es X.env).findIdx? (·.1) = none := by rfl) : PG X (.Tuple es k pos) (gTupL X.K n t) := by
  refine ⟨fun pins s σ H v u Q I r hw => ?_⟩
  obtain ⟨a, xs, rfl, hq, hl, hw⟩ := hw
  cases r
  obtain ⟨its, rv, p, hz⟩ := I.list hq
  refine assign_lst (I.ok.hd hc) p.isList (by simp [hn, <- hl, rv.length]) hst fun h' hx => ?_
  have I1 : Inv X pins σ H { s with heap := h' } := I.kept (t' := s.toks) fun b o e => hx b o (Nat.ne_of_lt (Heap.lt_size e)) e
  exact h.run pins _ σ H xs _ Q I1 (by simpa using rv) hw
def sAsgL (tgs : List Tg) (f : Den D) : Den Fl := f.bind fun d => fun m => match d with
  | .lst ds => match tgSets tgs ds m.sl with
    | some sl => .ok .nx { m with sl := sl }
    | none => .bad
  | _ => .bad
theorem ss_asgL {a : Expr} {n k0 : Nat} {fe : Den D} {tpos : Pos} (he : SE cls own X a fe) (hc : X.calm = true) (h : SGs cls own X es tgs) (hl : tgs.length = n) (hn : (assignEach es X.env).length = n := by rfl) (hst : (assignEach es X.env).findIdx? (·.1) = none := by rfl)
    (hs : swapsWithSole [.Tuple es k0 tpos] a pos.line X.env = pure false := by rfl) (hw : swappedStores [.Tuple es k0 tpos] a X.env = pure none := by rfl)
    (h1 : (assignEach [.Tuple es k0 tpos] X.env).map (·.2) = [assign (.Tuple es k0 tpos) X.env] := by rfl) : SS cls own X (.Assign [.Tuple es k0 tpos] a pos) (sAsgL tgs fe) := by
  refine ps_imp (ps_asg he (pg_tupL (n := n) hc h hn hst) hs hw h1) fun E σ H q => ?_
  obtain ⟨G, al, m, fl, m', r, e, k⟩ := q
  obtain ⟨d, m1, e1, e⟩ := bind_ok e
  refine ⟨G, al, m, d, m1, r, e1, fun G1 al1 v H1 ev1 r1 dv => ?_⟩
  split at e
  · next ds =>
    split at e
    · next sl e2 =>
      cases e
      cases dv with
      | lst g1 g2 =>
        exact ⟨_, _, rfl, .inl (.inl (r1.zh _ _ g1)), by rw [g2.length, tgSets_len e2, hl], G1, al1, m1, ds, sl, r1, g2, e2, fun σ' r' _ => k G1 al1 σ' H1 ev1 r'⟩
    · cases e
  · cases e
@[simp] theorem sAsgL_at {m : MS} {f : Den D} : sAsgL tgs f m = match f m with
  | .ok d m1 => match d with
    | .lst ds => match tgSets tgs ds m1.sl with
      | some sl => .ok .nx ⟨sl, m1.st⟩
      | none => .bad
    | _ => .bad
  | .bad => .bad := by
  simp only [sAsgL, Den.bind]
  cases f m with
  | bad => rfl
  | ok d m1 => cases d <;> rfl
end
end MI
namespace MI
open PySem PySem.Spec L2
end MI
namespace MI
open PySem PySem.Spec L2
def lkI {α : Type} (l : Int) : List (Int × α) -> Option α
  | [] => none
  | (k, v) :: r => if k = l then some v else lkI l r
abbrev dcI {α : Type} (enc : α -> D) (xs : List (Int × α)) : List (D × D) := xs.map fun q => (.int q.1, enc q.2)
theorem kEq_int {i j : Int} : kEq (.int i) (.int j) = decide (i = j) := by
  have := kEq_kD (.inl i) (.inl j)
  simpa [kD] using this
theorem dget_I {α : Type} {enc : α -> D} {l : Int} : ∀ {xs : List (Int × α)}, dget (dcI enc xs) (.int l) = (lkI l xs).map enc
  | [] => rfl
  | (k, v) :: r => by
    show (if kEq (.int k) (.int l) then some (enc v) else dget (dcI enc r) (.int l)) = _
    rw [kEq_int, lkI, dget_I]
    by_cases h : k = l
    · simp [h]
    · simp [h]
theorem isKey_int {i : Int} : isKey (.int i) = true := rfl
theorem in_dicI {α : Type} {enc : α -> D} {l : Int} {xs : List (Int × α)} : gInA (.int l) (.dic (dcI enc xs)) = some (.bl (lkI l xs).isSome) := by
  show gInD (.int l) (.dic (dcI enc xs)) = _
  unfold gInD gIn
  simp only [isKey_int, if_true, dget_I, Option.map_some]
  cases lkI l xs <;> rfl
theorem ix_dicI {α : Type} {enc : α -> D} {l : Int} {xs : List (Int × α)} {v : α} (h : lkI l xs = some v) : gIxA (.dic (dcI enc xs)) (.int l) = some (enc v) := by
  show (if isKey (.int l) then dget (dcI enc xs) (.int l) else none) = _
  rw [isKey_int, if_pos rfl, dget_I, h]; rfl
theorem lkI_none {α : Type} {l : Int} : ∀ {xs : List (Int × α)}, lkI l xs = none ↔ l ∉ xs.map (·.1)
  | [] => by simp [lkI]
  | (k, v) :: r => by
    rw [lkI, List.map_cons, List.mem_cons]
    by_cases h : k = l
    · simp [h]
    · rw [if_neg h, lkI_none (xs := r), not_or]
      exact ⟨fun z => ⟨fun e => h e.symm, z⟩, fun z => z.2⟩
theorem dput_new {α : Type} {enc : α -> D} {l : Int} {v : α} {xs : List (Int × α)} (h : l ∉ xs.map (·.1)) : dput (dcI enc xs) (.int l) (enc v) = dcI enc (xs ++ [(l, v)]) := by
  unfold dput
  rw [dget_I, lkI_none.mpr h]
  simp [dcI]
abbrev fTake : Fn := runFn 8 dTake
theorem ix_tup {ds : List D} {i : Int} (h0 : 0 <= i) (h1 : i < ds.length) : gIxA (.tup ds) (.int i) = some (ds[i.toNat]'(by omega)) := by
  show atI ds i = _
  have : ixN ds.length i = some i.toNat := by unfold ixN; rw [if_pos h0, if_pos h1]
  unfold atI
  rw [this]
  exact List.getElem?_eq_getElem _
theorem ix_lst {ds : List D} {i : Int} (h0 : 0 <= i) (h1 : i < ds.length) : gIxA (.lst ds) (.int i) = some (ds[i.toNat]'(by omega)) := by
  show atI ds i = _
  have : ixN ds.length i = some i.toNat := by unfold ixN; rw [if_pos h0, if_pos h1]
  unfold atI
  rw [this]
  exact List.getElem?_eq_getElem _
def dPick : Den Fl := sRet (eOp gIxA (hVal (eVar 1)) (hVal (eCallK fTake [.p 0, .p 1] [] (aVals (aCons (hVal (eVar 0)) (aCons (hVal (eFn gLen (aCons (hVal (eVar 1)) (aNil)))) (aNil)))) (aVals (aNil)))))
abbrev fPick : Fn := runFn 2 dPick
end MI
namespace MI
open PySem PySem.Spec L2
def zi {α : Type} (k : Nat) : List α -> List (Nat × α)
  | [] => []
  | x :: r => (k, x) :: zi (k + 1) r
theorem zi_len {α : Type} : ∀ {xs : List α} {k : Nat}, (zi k xs).length = xs.length
  | [], _ => rfl
  | x :: r, k => by rw [zi, List.length_cons, List.length_cons, zi_len]
theorem enum_zi {α : Type} {enc : α -> D} : ∀ {xs : List α} {k : Nat}, enumD (k : Int) (xs.map enc) = (zi k xs).map fun p => .tup [.int (p.1 : Nat), enc p.2]
  | [], _ => rfl
  | x :: r, k => by
    rw [List.map_cons, enumD, zi, List.map_cons]
    have := enum_zi (enc := enc) (xs := r) (k := k + 1)
    rw [<- this]
    rfl
theorem range_D : ∀ (n : Nat) (lo : Int), rangeD lo n = (List.range n).map fun k => .int (lo + (k : Nat))
  | 0, _ => rfl
  | n + 1, lo => by
    rw [rangeD, range_D n (lo + 1), List.range_succ_eq_map, List.map_cons, List.map_map]
    congr 1
    · simp
    · apply List.map_congr_left
      intro k _
      show D.int _ = D.int _
      congr 1
      simp only [Nat.succ_eq_add_one]
      push_cast
      omega
theorem range_D0 (n : Nat) : rangeD 0 n = (List.range n).map fun k => .int (k : Nat) := by
  rw [range_D]
  apply List.map_congr_left
  intro k _
  simp
abbrev qD (q : Int × Int) : D := .tup [.int q.1, .int q.2]
section
variable {m : MS} {f : Den D} {hs : Den (List Hd)} {h h2 : Den Hd} {i : Nat} {G : List D -> List D -> Option (D × List D)} {l : Den (List D)} {s : Den Fl}
@[simp] theorem eIndex_at : eIndex f hs m = match f m with
  | .ok o m1 => match o with
    | .tup ds => match hs m1 with
      | .ok [x] m2 => match look x m2 with
        | some d => match gIndex (.tup ds) d with
          | some z => .ok z m2
          | none => .bad
        | none => .bad
      | _ => .bad
    | _ => .bad
  | .bad => .bad := by
  simp only [eIndex, Den.bind]
  cases f m with
  | bad => rfl
  | ok o m1 => cases o <;> rfl
@[simp] theorem iEnum_at : iEnum hs m = match hs m with
  | .ok xs m1 => match looksV xs with
    | some [.lst ds] => .ok (enumD 0 ds) m1
    | some [.tup ds] => .ok (enumD 0 ds) m1
    | _ => .bad
  | .bad => .bad := by
  simp only [iEnum, Den.bind]
  cases hs m with
  | bad => rfl
  | ok xs m1 => rfl
@[simp] theorem eMut_at : eMut i G l m = match m.sl[i]? with
  | some (some (.lst _)) => match l m with
    | .ok xs m1 => match m1.sl[i]? with
      | some (some (.lst ds)) => match G ds xs with
        | some (z, ds') => .ok z ⟨m1.sl.set i (some (.lst ds')), m1.st⟩
        | none => .bad
      | _ => .bad
    | .bad => .bad
  | _ => .bad := by unfold eMut; rfl
@[simp] theorem sFrz_at : sFrz i s m = match s m with
  | .ok fl m1 => .ok fl ⟨m1.sl.set i none, m1.st⟩
  | .bad => .bad := by unfold sFrz; rfl
@[simp] theorem sPut_at : sPut i h f m = match f m with
  | .ok v m1 => match m1.sl[i]? with
    | some (some _) => match h m1 with
      | .ok hk m2 => match m2.sl[i]?, look hk m2 with
        | some (some d), some k => match gSet d k v with
          | some d' => .ok .nx ⟨m2.sl.set i (some d'), m2.st⟩
          | none => .bad
        | _, _ => .bad
      | .bad => .bad
    | _ => .bad
  | .bad => .bad := by
  simp only [sPut, Den.bind]
  cases f m with
  | bad => rfl
  | ok v m1 => rfl
end
theorem ge_int {i j : Int} : gEq (.int i) (.int j) = some (.bl (i == j)) := rfl
theorem gn_int {i j : Int} : gNe (.int i) (.int j) = some (.bl (!(i == j))) := rfl
end MI
namespace MI
open PySem PySem.Spec L2
end MI
namespace MI
open PySem PySem.Spec L2
def strs? : List D -> Option (List Str)
  | [] => some []
  | .str z :: r => (strs? r).map (z :: ·)
  | _ => none
theorem strs_of {K : KX} {Z : Hp} {al : List Addr} : ∀ {ds : List D} {xs : List V} {ys : List Str}, DVs K Z al xs ds -> strs? ds = some ys -> xs = ys.map V.str
  | _, _, _, .nil, e => by cases e; rfl
  | _ :: r, _, _, .cons d h, e => by
    cases d with
    | str z =>
      unfold strs? at e
      cases e2 : strs? r with
      | none => rw [e2] at e; cases e
      | some zs =>
        rw [e2] at e; cases e
        rw [strs_of h e2]; rfl
    | _ => cases e
def gJoin (a b : D) : Option D := match a, b with
  | .str z, .lst ds => match strs? ds with
    | some ys => if (ys.map (·.length)).sum + ys.length * z.length <= 16777216 then some (.str (Txt.join z ys)) else none
    | none => none
  | _, _ => none
def eJoin (fo fe : Den D) : Den D := fo.bind fun o => fun m0 => match o with
  | .str z => match fe m0 with
    | .ok x m => match gJoin (.str z) x with
      | some y => .ok y m
      | none => .bad
    | _ => .bad
  | _ => .bad
section
variable {cls : Nat -> Addr} {own : Nat -> Bool} {X : Cx} {o a : Expr} {apos cpos : Pos} {fo fe : Den D}
theorem se_join (ho : SE cls own X o fo) (ha : SE cls own X a fe) (hs : starEach [a] X.env = [(false, eval a X.env)] := by rfl) (hbase : attributeBase o "join" X.env (eval o X.env) = eval o X.env := by rfl) (hline : (apos.endLine == cpos.line) = true := by rfl) :
    SE cls own X (.Call (.Attribute o "join" apos) [a] [] cpos) (eJoin fo fe) := by
  refine pe_imp (pe_join ho ha hs hbase hline) fun σ H Q q => ?_
  obtain ⟨G, al, m, d, m', r, e, k⟩ := q
  obtain ⟨dt, m0, e0, e⟩ := bind_ok e
  split at e
  case h_2 => cases e
  next z =>
  split at e
  case h_2 => cases e
  next x m1 e1 =>
  split at e
  case h_2 => cases e
  next y gz =>
  cases e
  refine ⟨G, al, m, _, m0, r, e0, fun G0 al0 v H0 ev0 r0 dv => ?_⟩
  cases dv
  refine ⟨⟨_, rfl⟩, G0, al0, m0, _, _, r0, e1, fun G1 al1 u H1 ev1 r1 hv => ?_⟩
  unfold gJoin at gz
  split at gz
  case h_2 => cases gz
  next z' ds q2 =>
  cases q2
  split at gz
  case h_2 => cases gz
  next ys qs =>
  split at gz
  case isFalse => cases gz
  next hf =>
  cases gz
  cases hv with
  | lst h1 h2 =>
    have := strs_of h2 qs
    subst this
    exact ⟨_, _, ys, rfl, rfl, .inl (.inl (.inl (r1.zh _ _ h1))), hf, k G1 al1 _ H1 (ev0.trans ev1) r1 (.str _)⟩
end
end MI
namespace MI
open PySem PySem.Spec L2
section
variable {P : Program} {w : World} {A : Around} {E : Value -> Shared -> Prop} {s : Shared}
theorem set_of_lst {l : Addr} {its : Array Value} (ns : List Int) {Q : Value -> Shared -> Prop} (hh : A.handled = none) (hl : s.heap.IsList l its) (hit : PyProof.Rows.IntsAre its.toList ns) (few : ns.length + 1 < scanBound)
    (h : ∀ (h' : Heap) (tk c : Nat), SetR w h' s.heap.objs.size (fun j => decide (j ∈ ns)) c -> c <= ns.length -> (∀ b o, s.heap.get? b = some o -> h'.get? b = some o) -> Q (.ref s.heap.objs.size) { s with heap := h', toks := tk }) :
    wpAny (model P w) A (call (.type "set") [.ref l]) Q E s := by
  have size : its.size = ns.length := by
    have q := PyProof.Rows.IntsAre.length hit
    rwa [Array.length_toList] at q
  have cs := F.called_set
  obtain ⟨c, tl, hmro⟩ := cs.mro
  have m1 := cs.made
  have m2 := cs.sub
  refine wpAny_call (codeAny_of_tree ?_)
  show wpAny _ _ (callAny (.type "set") _) _ _ _
  refine wpAny_pure ⟨Code.quiet_builtin _ (by decide +kernel), codeAny_builtin F.entry_type_call ?_⟩
  rw [Around.under_plain (weight_type_call_type "set" [.ref l] []) rfl]
  have m3 := cs.notType
  have m4 := cs.canCreate
  have m5 := F.typeCall_set_1 (.ref l)
  repeat (any_goals (first | assumption | wp_step))
  refine codeAny_mono (code_set_led1 (.ref l) (E := E) (Q₁ := fun ob t1 => ob = .ref s.heap.objs.size /\ t1 = { s with heap := s.heap.push (sO w) }) ⟨rfl, rfl⟩) fun res t1 hres => ?_
  cases res with
  | error ex => exact hres
  | ok fl => cases fl with
    | ret ob =>
      obtain ⟨rfl, rfl⟩ := hres
      have at0 : (s.heap.push (sO w)).get? s.heap.objs.size = some (sO w) := Heap.get?_push_size _ rfl
      have ty0 : Shared.TypeIs { s with heap := s.heap.push (sO w) } (.ref s.heap.objs.size) "set" := ⟨_, at0, rfl⟩
      have n1 := cs.init.lookup
      have n2 := cs.init.bind (.ref s.heap.objs.size)
      repeat (any_goals (first | assumption | wp_step))
      refine codeAny_mono (codeAny_call_builtin (R := wants (fun v t2 => v = .none /\ ∃ h' tk c, t2 = { s with heap := h', toks := tk } /\ SetR w h' s.heap.objs.size (fun j => decide (j ∈ ns)) c /\ c <= ns.length /\
          (∀ b o, s.heap.get? b = some o -> h'.get? b = some o)) E) cs.init.plain F.entry_set_init (check_set_init_1 ty0 ?_)) fun res2 t2 hres2 => ?_
      · obtain ⟨⟨oc, od, dt, osl⟩, hol, hcl, nl, hdl⟩ := hl
        simp only at hcl hdl
        subst hcl; subst hdl
        have hol1 : (s.heap.push (sO w)).get? l = some { cls := .type "list", dict := od, data := .seq its nl, slots := osl } := Heap.get?_push_of_some _ hol
        have p1 := F.sub_list_set
        have p2 := F.sub_list_frozenset
        have p3 : (Value.type "list" == Value.type "dict") = false := by decide
        have lst1 : (s.heap.push (sO w)).IsList l its := ⟨_, hol1, rfl, nl, rfl⟩
        unfold Builtin.«set.__init__» noKeywords Builtin.Frozenset.updateFrom
        generalize hPI : pyIter = PI
        wp_walk
        subst hPI
        refine wpAny_pyIter_list lst1 ?_
        refine wpAny_bind (wpAny_runValue ?_)
        have lt : l < s.heap.objs.size := Heap.lt_size hol
        have h3 : A.in1.in1.in1.handled = none := by simp [hh]
        have ne : l ≠ (s.heap.push (sO w)).objs.size := by rw [Heap.size_push]; exact Nat.ne_of_lt (Nat.lt_succ_of_lt lt)
        have out : s.heap.objs.size ∉ [(s.heap.push (sO w)).objs.size, l] := by
          rw [Heap.size_push]
          simp only [List.mem_cons, List.not_mem_nil, or_false, not_or]
          refine ⟨Nat.ne_of_lt (Nat.lt_succ_self _), Nat.ne_of_gt lt⟩
        have val : ∀ (i : Nat) (v : Value), its[i]? = some v -> ∃ k t, ns[i]? = some k /\ v = .int k t := fun i v hv => by
          have hi : i < ns.length := by rw [<- size]; exact (Array.getElem?_eq_some_iff.mp hv).1
          obtain ⟨t, e⟩ := PyProof.Rows.IntsAre.int_at hit i v (by simpa using hv)
          refine ⟨ns[i], t, List.getElem?_eq_getElem hi, ?_⟩
          simpa [List.getD_eq_getElem?_getD, List.getElem?_eq_getElem hi] using e
        refine set_update_ints ((Walks.list h3 _ l ne its).toS) s.heap.objs.size out ns size few val (its.size - 0) 0 _ (by omega) (Nat.zero_le _)
          ⟨⟨_, Heap.get?_push_size _ rfl, rfl, rfl⟩, lst1.push _⟩ ⟨0, Nat.le_refl 0, setR_new_at (Heap.get?_push_of_some _ at0)⟩ ?_
        intro t3 c3 mv hc3 st
        obtain ⟨h', g2, d2, tk, os2⟩ := t3
        have eg : g2 = s.gens := mv.gens
        have ed : d2 = s.drawn := mv.drawn
        have eo : os2 = s.os := mv.os
        subst eg; subst ed; subst eo
        show wpAny _ _ _ _ _ _
        refine wpAny_pure ?_
        show wpAny _ _ (ret Value.none) _ _ _
        rw [size] at hc3
        refine wpAny_pure ⟨rfl, h', tk, c3, rfl, st, hc3, fun b o e => ?_⟩
        have b0 := Heap.lt_size e
        refine mv.heap b o ?_ (Heap.get?_push_of_some _ (Heap.get?_push_of_some _ e))
        simp only [List.mem_cons, List.not_mem_nil, or_false, not_or, Heap.size_push]
        exact ⟨Nat.ne_of_lt b0, Nat.ne_of_lt (Nat.lt_succ_of_lt b0)⟩
      · cases res2 with
        | error ex => exact hres2
        | ok fl2 => cases fl2 with
          | ret v =>
            obtain ⟨rfl, h', tk, c3, rfl, st, hc3, kp⟩ := hres2
            repeat (any_goals (first | assumption | wp_step))
            exact h _ _ _ st hc3 kp
          | _ => exact hres2.elim
    | _ => exact hres.elim
end
def insU (x : Int) : List Int -> List Int
  | [] => [x]
  | y :: r => if x < y then x :: y :: r else if x = y then y :: r else y :: insU x r
def srtU (ns : List Int) : List Int := ns.foldr insU []
theorem insU_mem {x z : Int} : ∀ {l : List Int}, z ∈ insU x l ↔ z = x \/ z ∈ l
  | [] => by simp [insU]
  | y :: r => by
    rw [insU]
    split
    · simp
    · split
      · next h => subst h; simp
      · simp [insU_mem (l := r)]; constructor
        · rintro (h | h | h) <;> simp [h]
        · rintro (h | h | h) <;> simp [h]
theorem insU_lt {x : Int} : ∀ {l : List Int}, l.Pairwise (· < ·) -> (insU x l).Pairwise (· < ·)
  | [], _ => by simp [insU]
  | y :: r, h => by
    rw [List.pairwise_cons] at h
    rw [insU]
    split
    · next e =>
      refine List.pairwise_cons.mpr ⟨fun z hz => ?_, List.pairwise_cons.mpr h⟩
      rcases List.mem_cons.mp hz with rfl | hz
      · exact e
      · have := h.1 z hz; omega
    · split
      · exact List.pairwise_cons.mpr h
      · next e1 e2 =>
        refine List.pairwise_cons.mpr ⟨fun z hz => ?_, insU_lt h.2⟩
        rcases insU_mem.mp hz with rfl | hz
        · omega
        · exact h.1 z hz
theorem srtU_mem {z : Int} : ∀ {l : List Int}, z ∈ srtU l ↔ z ∈ l
  | [] => by simp [srtU]
  | y :: r => by
    have := srtU_mem (z := z) (l := r)
    unfold srtU at *
    rw [List.foldr_cons, insU_mem, List.mem_cons, this]
theorem srtU_lt : ∀ (l : List Int), (srtU l).Pairwise (· < ·)
  | [] => List.Pairwise.nil
  | y :: r => by
    have := srtU_lt r
    unfold srtU at *
    rw [List.foldr_cons]
    exact insU_lt this
theorem lt_uniq : ∀ {a b : List Int}, a.Pairwise (· < ·) -> b.Pairwise (· < ·) -> (∀ z, z ∈ a ↔ z ∈ b) -> a = b
  | [], [], _, _, _ => rfl
  | [], y :: b, _, _, h => by simpa using (h y).mpr (List.mem_cons_self ..)
  | x :: a, [], _, _, h => by simpa using (h x).mp (List.mem_cons_self ..)
  | x :: a, y :: b, h1, h2, h => by
    rw [List.pairwise_cons] at h1 h2
    have e : x = y := by
      rcases List.mem_cons.mp ((h x).mp (List.mem_cons_self ..)) with e | e
      · exact e
      · rcases List.mem_cons.mp ((h y).mpr (List.mem_cons_self ..)) with e' | e'
        · exact e'.symm
        · have := h1.1 _ e'; have := h2.1 _ e; omega
    subst e
    refine congrArg (x :: ·) (lt_uniq h1.2 h2.2 fun z => ?_)
    constructor
    · intro hz
      rcases List.mem_cons.mp ((h z).mp (List.mem_cons_of_mem _ hz)) with rfl | e
      · have := h1.1 _ hz; omega
      · exact e
    · intro hz
      rcases List.mem_cons.mp ((h z).mpr (List.mem_cons_of_mem _ hz)) with rfl | e
      · have := h2.1 _ hz; omega
      · exact e
section
variable {X : Cx}
def rSetL (K : PySem.W.Frag) (w : World) : List V -> Hp -> VK -> Prop := fun xs H Q => ∃ (l : Addr) (ns : List Int), xs = [.ref l] /\ SqL K H l (ns.map V.int) /\ ns.length < 1000 /\
  ∀ q, H q = none -> Q (.ref q) (upd H q (SetO w q (fun j => decide (j ∈ ns)) (srtU ns).length))
theorem cr_setL (hc : X.calm = true) : CallR X (.type "set") (rSetL X.K X.w) := by
  intro pins s σ H xs us Q I r h
  obtain ⟨l, ns, rfl, hl, few, q⟩ := h
  rw [Vals.ref1 r]
  obtain ⟨its, rv, pl, hz⟩ := I.list hl
  have hi : PyProof.Rows.IntsAre its ns := intsAre_of rv
  refine set_of_lst (P := X.prog) (w := X.w) (its := its.toArray) ns (I.ok.hd hc) pl.isList hi (by unfold scanBound; omega) fun h' tk c R hc k => ?_
  have e : c = (srtU ns).length := by
    obtain ⟨o, es, ep, t, _, _, _, _, nd, hm, _, _, hn, _⟩ := R
    rw [<- hn, <- Array.length_toList, <- List.length_map (f := keyOf)]
    exact nodup_len nd (List.Pairwise.imp (fun {a b} (h : a < b) => by omega) (srtU_lt ns)) fun x => by rw [<- hm, srtU_mem]; simp
  subst e
  exact ⟨.ref s.heap.objs.size, _, I.laid (t' := tk) k (Nat.le_refl _) (setO_new R), rfl, q _ (I.hok.fresh (Nat.le_refl _))⟩
end
section
variable {K : KX} {Z : Hp} {al : List Addr}
theorem dvs_of_ints : ∀ (ns : List Int), DVs K Z al (ns.map V.int) (ns.map D.int)
  | [] => .nil
  | n :: ns => .cons (.int n) (dvs_of_ints ns)
end
end MI
namespace MI
open PySem PySem.Spec L2
section
variable {α β : Type} {m : MS} {Q : α -> MS -> Prop}
theorem w_bind {f : Den β} {g : β -> Den α} (h : W f m fun b m1 => W (g b) m1 Q) : W (f.bind g) m Q := by
  obtain ⟨b, m1, e, a, m2, e2, q⟩ := h
  refine ⟨a, m2, ?_, q⟩
  unfold Den.bind
  rw [e]
  exact e2
theorem w_ret {a : α} (q : Q a m) : W (Den.ret a) m Q := ⟨a, m, rfl, q⟩
end
section
variable {m : MS} {Q : D -> MS -> Prop} {QH : Hd -> MS -> Prop} {QL : List D -> MS -> Prop} {QA : List Hd -> MS -> Prop} {QB : Bool -> MS -> Prop} {QF : Fl -> MS -> Prop} {i : Nat} {d : D}
theorem w_var (e : m.sl[i]? = some (some d)) (q : Q d m) : W (eVar i) m Q := by
  refine ⟨d, m, ?_, q⟩
  unfold eVar
  rw [e]
theorem w_c (q : Q d m) : W (eC d) m Q := ⟨d, m, rfl, q⟩
theorem w_hslot (e : m.sl[i]? = some (some d)) (q : QH (.slot i) m) : W (hSlot i) m QH := by
  refine ⟨.slot i, m, ?_, q⟩
  unfold hSlot
  rw [e]
theorem w_hval {f : Den D} (h : W f m fun d m1 => QH (.val d) m1) : W (hVal f) m QH := w_bind (h.mono fun d m1 q => w_ret q)
theorem w_anil (q : QA [] m) : W aNil m QA := w_ret q
theorem w_acons {f : Den Hd} {r : Den (List Hd)} (h : W f m fun a m1 => W r m1 fun as m2 => QA (a :: as) m2) : W (aCons f r) m QA :=
  w_bind (h.mono fun a m1 q => w_bind (q.mono fun as m2 q => w_ret q))
theorem w_avals {f : Den (List Hd)} (h : W f m fun hs m1 => ∃ ds, looksV hs = some ds /\ QL ds m1) : W (aVals f) m QL := by
  refine w_bind (h.mono fun hs m1 ⟨ds, e, q⟩ => ⟨ds, m1, ?_, q⟩)
  simp only [e]
theorem w_alooks {f : Den (List Hd)} (h : W f m fun hs m1 => ∃ ds, looks hs m1 = some ds /\ QL ds m1) : W (aLooks f) m QL := by
  refine w_bind (h.mono fun hs m1 ⟨ds, e, q⟩ => ⟨ds, m1, ?_, q⟩)
  simp only [e]
theorem w_op {g : D -> D -> Option D} {fa fb : Den Hd} (h : W fa m fun a m1 => W fb m1 fun b m2 => ∃ x y d, look a m2 = some x /\ look b m2 = some y /\ g x y = some d /\ Q d m2) : W (eOp g fa fb) m Q := by
  refine w_bind (h.mono fun a m1 q => w_bind (q.mono fun b m2 ⟨x, y, d, e1, e2, e3, q⟩ => ⟨d, m2, ?_, q⟩))
  simp only [e1, e2, e3]
theorem w_un {g : D -> Option D} {fa : Den Hd} (h : W fa m fun a m1 => ∃ x d, look a m1 = some x /\ g x = some d /\ Q d m1) : W (eUn g fa) m Q := by
  refine w_bind (h.mono fun a m1 ⟨x, d, e1, e3, q⟩ => ⟨d, m1, ?_, q⟩)
  simp only [e1, e3]
theorem w_fn {g : List D -> Option D} {fa : Den (List Hd)} (h : W fa m fun a m1 => ∃ x d, looks a m1 = some x /\ g x = some d /\ Q d m1) : W (eFn g fa) m Q := by
  refine w_bind (h.mono fun a m1 ⟨x, d, e1, e3, q⟩ => ⟨d, m1, ?_, q⟩)
  simp only [e1, e3]
theorem w_tup {fa : Den (List Hd)} (h : W fa m fun a m1 => ∃ ds, looksV a = some ds /\ fitL ds.length = true /\ Q (.tup ds) m1) : W (eTup fa) m Q := by
  refine w_bind (h.mono fun a m1 ⟨ds, e1, e3, q⟩ => ⟨_, m1, ?_, q⟩)
  simp only [e1, e3, if_true]
theorem w_lst {fa : Den (List Hd)} (h : W fa m fun a m1 => ∃ ds, looksV a = some ds /\ fitL ds.length = true /\ Q (.lst ds) m1) : W (eLst fa) m Q := by
  refine w_bind (h.mono fun a m1 ⟨ds, e1, e3, q⟩ => ⟨_, m1, ?_, q⟩)
  simp only [e1, e3, if_true]
theorem w_cut {fa : Den Hd} {fl fh : Den (Option Int)} (h : W fa m fun a m1 => W fl m1 fun lo m2 => W fh m2 fun hi m3 => ∃ x d, look a m3 = some x /\ gCut x lo hi = some d /\ Q d m3) : W (eCut fa fl fh) m Q := by
  refine w_bind (h.mono fun a m1 q => w_bind (q.mono fun lo m2 q => w_bind (q.mono fun hi m3 ⟨x, d, e1, e3, q⟩ => ⟨_, m3, ?_, q⟩)))
  simp only [e1, e3]
theorem w_pno {Q : Option Int -> MS -> Prop} (q : Q none m) : W pNo m Q := w_ret q
theorem w_pint {f : Den D} {Q : Option Int -> MS -> Prop} (h : W f m fun d m1 => ∃ j, d = .int j /\ Q (some j) m1) : W (pInt f) m Q := by
  refine w_bind (h.mono fun d m1 ⟨j, e, q⟩ => ?_)
  subst e
  exact ⟨_, m1, rfl, q⟩
theorem w_join {fo fe : Den D} (h : W fo m fun o m1 => ∃ z, o = .str z /\ W fe m1 fun x m2 => ∃ y, gJoin (.str z) x = some y /\ Q y m2) : W (eJoin fo fe) m Q := by
  refine w_bind (h.mono fun o m1 ⟨z, e, x, m2, e1, y, e2, q⟩ => ⟨y, m2, ?_, q⟩)
  subst e
  simp only [e1, e2]
theorem w_mut {g : List D -> List D -> Option (D × List D)} {fa : Den (List D)} {ds0 : List D} (e0 : m.sl[i]? = some (some (.lst ds0)))
    (h : W fa m fun xs m1 => ∃ ds z ds', m1.sl[i]? = some (some (.lst ds)) /\ g ds xs = some (z, ds') /\ Q z { m1 with sl := m1.sl.set i (some (.lst ds')) }) : W (eMut i g fa) m Q := by
  obtain ⟨xs, m1, e1, ds, z, ds', e2, e3, q⟩ := h
  refine ⟨z, _, ?_, q⟩
  unfold eMut
  rw [e0]
  show (match fa m with | .ok xs m1 => (match m1.sl[i]? with | some (some (.lst ds)) => (match g ds xs with | some (z, ds') => R.ok z { m1 with sl := m1.sl.set i (some (.lst ds')) } | none => .bad) | _ => .bad) | .bad => .bad) = _
  rw [e1]
  show (match m1.sl[i]? with | some (some (.lst ds)) => (match g ds xs with | some (z, ds') => R.ok z { m1 with sl := m1.sl.set i (some (.lst ds')) } | none => .bad) | _ => .bad) = _
  rw [e2]
  show (match g ds xs with | some (z, ds') => R.ok z { m1 with sl := m1.sl.set i (some (.lst ds')) } | none => .bad) = _
  rw [e3]
theorem w_callK {f : Fn} {sp : List Src} {dd : List D} {fs fk : Den (List D)} (h : W fs m fun ds m1 => W fk m1 fun es m2 => FS f (arr sp ds dd es) m2.st fun d st => Q d { m2 with st := st }) : W (eCallK f sp dd fs fk) m Q := by
  refine w_bind (h.mono fun ds m1 q => w_bind (q.mono fun es m2 ⟨d, st, e, q⟩ => ⟨d, _, ?_, q⟩))
  simp only [e]
theorem w_share {f : Den D} (h : W f m fun d m1 => ∃ ds, d = .lst ds /\ Q (.obj m1.st.length) { m1 with st := m1.st ++ [.lst ds] }) : W (eShare f) m Q := by
  refine w_bind (h.mono fun d m1 ⟨ds, e, q⟩ => ?_)
  subst e
  exact ⟨_, _, rfl, q⟩
theorem w_bof {f : Den D} (h : W f m fun d m1 => ∃ b, d = .bl b /\ QB b m1) : W (bOf f) m QB := by
  refine w_bind (h.mono fun d m1 ⟨b, e, q⟩ => ?_)
  subst e
  exact ⟨b, m1, rfl, q⟩
theorem w_btru {f : Den Hd} (h : W f m fun h m1 => ∃ d b, look h m1 = some d /\ gTru d = some b /\ QB b m1) : W (bTru f) m QB := by
  refine w_bind (h.mono fun h m1 ⟨d, b, e1, e2, q⟩ => ⟨b, m1, ?_, q⟩)
  simp only [e1, e2]
theorem w_band {f g : Den Bool} (h : W f m fun b m1 => (b = true -> W g m1 QB) /\ (b = false -> QB false m1)) : W (bAnd f g) m QB := by
  refine w_bind (h.mono fun b m1 q => ?_)
  cases b with
  | true => exact q.1 rfl
  | false => exact w_ret (q.2 rfl)
theorem w_bor {f g : Den Bool} (h : W f m fun b m1 => (b = true -> QB true m1) /\ (b = false -> W g m1 QB)) : W (bOr f g) m QB := by
  refine w_bind (h.mono fun b m1 q => ?_)
  cases b with
  | true => exact w_ret (q.1 rfl)
  | false => exact q.2 rfl
theorem w_bnot {f : Den Bool} (h : W f m fun b m1 => QB (!b) m1) : W (bNot f) m QB := w_bind (h.mono fun b m1 q => w_ret q)
theorem w_eif {c : Den Bool} {f g : Den D} (h : W c m fun b m1 => (b = true -> W f m1 Q) /\ (b = false -> W g m1 Q)) : W (eIf c f g) m Q := by
  refine w_bind (h.mono fun b m1 q => ?_)
  cases b with
  | true => exact q.1 rfl
  | false => exact q.2 rfl
theorem w_eand {f g : Den D} (h : W (bOf f) m fun b m1 => (b = true -> W g m1 Q) /\ (b = false -> Q (.bl false) m1)) : W (eAnd f g) m Q := by
  refine w_bind (h.mono fun b m1 q => ?_)
  cases b with
  | true => exact q.1 rfl
  | false => exact w_ret (q.2 rfl)
theorem w_seq {f g : Den Fl} (h : W f m fun fl m1 => match fl with | .nx => W g m1 QF | fl => QF fl m1) : W (sSeq f g) m QF := by
  refine w_bind (h.mono fun fl m1 q => ?_)
  cases fl with
  | nx => exact q
  | rt d => exact w_ret q
  | bk => exact w_ret q
  | ct => exact w_ret q
  | xc c fs => exact w_ret q
theorem w_nx (q : QF .nx m) : W sNx m QF := w_ret q
theorem w_drop {f : Den D} (h : W f m fun _ m1 => QF .nx m1) : W (sDrop f) m QF := w_bind (h.mono fun d m1 q => w_ret q)
theorem w_rt {f : Den D} (h : W f m fun d m1 => QF (.rt d) m1) : W (sRet f) m QF := w_bind (h.mono fun d m1 q => w_ret q)
theorem w_if {c : Den Bool} {f g : Den Fl} (h : W c m fun b m1 => (b = true -> W f m1 QF) /\ (b = false -> W g m1 QF)) : W (sIf c f g) m QF := by
  refine w_bind (h.mono fun b m1 q => ?_)
  cases b with
  | true => exact q.1 rfl
  | false => exact q.2 rfl
theorem w_set {f : Den D} (h : W f m fun d m1 => QF .nx ⟨m1.sl.set i (some d), m1.st⟩) : W (sSet i f) m QF := w_bind (h.mono fun d m1 q => ⟨_, _, rfl, q⟩)
theorem w_asg {tg : Tg} {f : Den D} (h : W f m fun d m1 => ∃ sl, tgSet tg d m1.sl = some sl /\ QF .nx ⟨sl, m1.st⟩) : W (sAsg tg f) m QF := by
  refine w_bind (h.mono fun d m1 ⟨sl, e, q⟩ => ⟨.nx, _, ?_, q⟩)
  simp only [e]
theorem w_frz {f : Den Fl} (h : W f m fun fl m1 => QF fl ⟨m1.sl.set i none, m1.st⟩) : W (sFrz i f) m QF := by
  obtain ⟨fl, m1, e, q⟩ := h
  refine ⟨fl, _, ?_, q⟩
  unfold sFrz
  rw [e]
theorem w_put {fk : Den Hd} {fv : Den D} (h : W fv m fun v m1 => ∃ d0, m1.sl[i]? = some (some d0) /\ W fk m1 fun hk m2 => ∃ d k d', m2.sl[i]? = some (some d) /\ look hk m2 = some k /\ gSet d k v = some d' /\ QF .nx ⟨m2.sl.set i (some d'), m2.st⟩) : W (sPut i fk fv) m QF := by
  refine w_bind (h.mono fun v m1 ⟨d0, e0, hk, m2, e1, d, k, d', e2, e3, e4, q⟩ => ⟨.nx, _, ?_, q⟩)
  simp only [e0, e1, e2, e3, e4]
theorem w_multi {is : List Nat} {f : Den (List D)} (h : W f m fun ds m1 => ds.length = is.length /\ QF .nx ⟨setD m1.sl is ds, m1.st⟩) : W (sMulti is f) m QF := by
  refine w_bind (h.mono fun ds m1 ⟨e, q⟩ => ⟨.nx, _, ?_, q⟩)
  simp only [e, if_true]
theorem w_mnil (q : QL [] m) : W mNil m QL := w_ret q
theorem w_mcons {f : Den D} {r : Den (List D)} (h : W f m fun a m1 => W r m1 fun as m2 => QL (a :: as) m2) : W (mCons f r) m QL :=
  w_bind (h.mono fun a m1 q => w_bind (q.mono fun as m2 q => w_ret q))
theorem w_iseq {f : Den D} (h : W f m fun d m1 => ∃ ds, (d = .lst ds \/ d = .tup ds) /\ QL ds m1) : W (iSeq f) m QL := by
  refine w_bind (h.mono fun d m1 ⟨ds, e, q⟩ => ⟨ds, m1, ?_, q⟩)
  rcases e with rfl | rfl <;> rfl
theorem w_irange1 {f : Den (List Hd)} (h : W f m fun hs m1 => ∃ j, hs = [.val (.int j)] /\ smallI j = true /\ QL (rangeD 0 j.toNat) m1) : W (iRange1 f) m QL := by
  refine w_bind (h.mono fun hs m1 ⟨j, e, s, q⟩ => ⟨_, m1, ?_, q⟩)
  subst e
  exact if_pos s
theorem w_ienum {f : Den (List Hd)} (h : W f m fun hs m1 => ∃ ds, (hs = [.val (.lst ds)] \/ hs = [.val (.tup ds)]) /\ QL (enumD 0 ds) m1) : W (iEnum f) m QL := by
  refine w_bind (h.mono fun hs m1 ⟨ds, e, q⟩ => ⟨_, m1, ?_, q⟩)
  rcases e with rfl | rfl <;> rfl
def turnQ (I : MS -> Prop) (QF : Fl -> MS -> Prop) : Fl -> MS -> Prop := fun fl m => match fl with
  | .nx => I m
  | .ct => I m
  | .bk => QF .nx m
  | .rt d => QF (.rt d) m
  | .xc c fs => QF (.xc c fs) m
theorem w_for {src : Den (List D)} {tg : Tg} {body : Den Fl} (I : List D -> List D -> MS -> Prop)
    (h : W src m fun ds m1 => I ds [] m1 /\ (∀ done d rest m2, done ++ d :: rest = ds -> I ds done m2 -> ∃ sl, tgSet tg d m2.sl = some sl /\ W body ⟨sl, m2.st⟩ (turnQ (I ds (done ++ [d])) QF)) /\ ∀ m2, I ds ds m2 -> QF .nx m2) : W (sFor src tg body) m QF := by
  refine w_bind (h.mono fun ds m1 ⟨h0, hb, hf⟩ => ?_)
  suffices hs : ∀ (rest done : List D) (m : MS), done ++ rest = ds -> I ds done m -> W (loopD tg body rest) m QF from hs ds [] m1 rfl h0
  intro rest
  induction rest with
  | nil => intro done m e h; exact w_ret (hf m (by rw [<- e]; simpa using (by rw [<- e] at h; simpa using h)))
  | cons d rest ih =>
    intro done m e h
    obtain ⟨sl, e0, fl, m1, e1, q⟩ := hb done d rest m e h
    have go : I ds (done ++ [d]) m1 -> W (loopD tg body rest) m1 QF := fun h1 => ih (done ++ [d]) m1 (by rw [<- e]; simp) h1
    refine ⟨?_⟩
    unfold loopD
    rw [e0]
    show ∃ a m', (match body { m with sl := sl } with | .ok .nx m2 => loopD tg body rest m2 | .ok .ct m2 => loopD tg body rest m2 | .ok .bk m2 => R.ok Fl.nx m2 | .ok (.rt d) m2 => R.ok (.rt d) m2 | .ok (.xc c fs) m2 => R.ok (.xc c fs) m2 | .bad => .bad) = R.ok a m' /\ QF a m'
    rw [e1]
    cases fl with
    | nx => exact (go q).ex
    | ct => exact (go q).ex
    | bk => exact ⟨_, _, rfl, q⟩
    | rt d => exact ⟨_, _, rfl, q⟩
    | xc c fs => exact ⟨_, _, rfl, q⟩
theorem w_while {c : Den Bool} {body : Den Fl} (I : Nat -> MS -> Prop) : ∀ (n k : Nat) (m : MS), k < n -> I k m ->
    (∀ k m, I k m -> W c m fun b m1 => (b = false -> QF .nx m1) /\ (b = true -> W body m1 (turnQ (fun m2 => ∃ k', k' < k /\ I k' m2) QF))) -> W (sWhile c body n) m QF
  | 0, k, m, hk, _, _ => by omega
  | n + 1, k, m, hk, h, hb => by
    obtain ⟨b, m1, e, q0, q1⟩ := hb k m h
    refine ⟨?_⟩
    unfold sWhile
    rw [e]
    cases b with
    | false => exact ⟨_, _, rfl, q0 rfl⟩
    | true =>
      obtain ⟨fl, m2, e2, q⟩ := q1 rfl
      show ∃ a m', (match body m1 with | .ok .nx m2 => sWhile c body n m2 | .ok .ct m2 => sWhile c body n m2 | .ok .bk m2 => R.ok Fl.nx m2 | .ok (.rt d) m2 => R.ok (.rt d) m2 | .ok (.xc c fs) m2 => R.ok (.xc c fs) m2 | .bad => .bad) = R.ok a m' /\ QF a m'
      rw [e2]
      cases fl with
      | nx => obtain ⟨k', hk', h'⟩ := q; exact (w_while I n k' m2 (by omega) h' hb).ex
      | ct => obtain ⟨k', hk', h'⟩ := q; exact (w_while I n k' m2 (by omega) h' hb).ex
      | bk => exact ⟨_, _, rfl, q⟩
      | rt d => exact ⟨_, _, rfl, q⟩
      | xc c fs => exact ⟨_, _, rfl, q⟩
theorem w_lc {src : Den (List D)} {vs : List Nat} {tg : Tg} {tt : Den Bool} {te : Den D} (I : List D -> List D -> List D -> MS -> Prop)
    (h : W src m fun ds m1 => I ds [] [] m1 /\ (∀ done d rest ys m2, done ++ d :: rest = ds -> I ds done ys m2 -> ∃ sl, tgSet tg d (wipeM m2.sl vs) = some sl /\
      W tt ⟨sl, m2.st⟩ fun b m3 => (b = false -> I ds (done ++ [d]) ys m3) /\ (b = true -> W te m3 fun y m4 => I ds (done ++ [d]) (ys ++ [y]) m4)) /\
      ∀ ys m2, I ds ds ys m2 -> fitL ys.length = true /\ Q (.lst ys) ⟨backM m1.sl m2.sl vs, m2.st⟩) : W (eLc src vs tg tt te) m Q := by
  refine w_bind (h.mono fun ds m1 ⟨h0, hb, hf⟩ => ?_)
  suffices hs : ∀ (rest done ys : List D) (m : MS), done ++ rest = ds -> I ds done ys m -> W (lcLoop vs tg tt te rest) m fun zs m' => I ds ds (ys ++ zs) m' by
    obtain ⟨zs, m2, e, q⟩ := hs ds [] [] m1 rfl h0
    obtain ⟨f, q⟩ := hf _ _ q
    refine ⟨_, _, ?_, q⟩
    simp only [e]
    exact if_pos f
  intro rest
  induction rest with
  | nil => intro done ys m e h; exact w_ret (by rw [<- e]; simpa using (by rw [<- e] at h; simpa using h))
  | cons d rest ih =>
    intro done ys m e h
    obtain ⟨sl, e0, b, m3, e1, qf, qt⟩ := hb done d rest ys m e h
    have e' : (done ++ [d]) ++ rest = ds := by rw [<- e]; simp
    cases b with
    | false =>
      obtain ⟨zs, m4, e4, q4⟩ := ih (done ++ [d]) ys m3 e' (qf rfl)
      refine ⟨zs, m4, ?_, q4⟩
      unfold lcLoop
      simp only [e0, e1]
      exact e4
    | true =>
      obtain ⟨y, m4, e4, q4⟩ := qt rfl
      obtain ⟨zs, m5, e5, q5⟩ := ih (done ++ [d]) (ys ++ [y]) m4 e' q4
      refine ⟨y :: zs, m5, ?_, by simpa using q5⟩
      unfold lcLoop
      simp only [e0, e1, e4, e5]
theorem fs_run {n : Nat} {body : Den Fl} {ds : List D} {st : Sto} {P : D -> Sto -> Prop}
    (h : W body ⟨ds.map some ++ List.replicate (n - ds.length) none, st⟩ fun fl m => match fl with | .rt d => P d m.st | .nx => P .non m.st | _ => False) : FS (runFn n body) ds st P := by
  obtain ⟨fl, m, e, q⟩ := h
  refine ⟨?_⟩
  unfold runFn
  rw [e]
  cases fl with
  | nx => exact ⟨_, _, rfl, q⟩
  | rt d => exact ⟨_, _, rfl, q⟩
  | bk => exact q.elim
  | ct => exact q.elim
  | xc c fs => exact q.elim
theorem fitk {n : Nat} (h : n <= 100000) : fitL n = true := by
  unfold fitL
  rw [decide_eq_true_eq, sizeLine_eq]
  omega
theorem xT {a : List Hd} {ds : List D} {P : List D -> Prop} (h : looksV a = some ds) (f : fitL ds.length = true) (q : P ds) : ∃ ds, looksV a = some ds /\ fitL ds.length = true /\ P ds := ⟨ds, h, f, q⟩
theorem x1 {P : D -> Prop} {o : Option D} {d : D} (h : o = some d) (q : P d) : ∃ d, o = some d /\ P d := ⟨d, h, q⟩
theorem x2 {o1 : Option D} {g : D -> Option D} {P : D -> Prop} {x d : D} (h1 : o1 = some x) (h : g x = some d) (q : P d) : ∃ x d, o1 = some x /\ g x = some d /\ P d := ⟨x, d, h1, h, q⟩
theorem x2L {o1 : Option (List D)} {g : List D -> Option D} {P : D -> Prop} {x : List D} {d : D} (h1 : o1 = some x) (h : g x = some d) (q : P d) : ∃ x d, o1 = some x /\ g x = some d /\ P d := ⟨x, d, h1, h, q⟩
theorem x3 {o1 o2 : Option D} {g : D -> D -> Option D} {P : D -> Prop} {x y d : D} (h1 : o1 = some x) (h2 : o2 = some y) (h : g x y = some d) (q : P d) : ∃ x y d, o1 = some x /\ o2 = some y /\ g x y = some d /\ P d := ⟨x, y, d, h1, h2, h, q⟩
end
end MI
namespace MI
open PySem PySem.Spec L2
theorem Kd.lst {n : Nat} {ds : List D} (h : ∀ d ∈ ds, Kd n d) : Kd (n + 1) (.lst ds) := by
  obtain ⟨b, hb⟩ := kd_max h
  exact ⟨_, RN.lst hb (Nat.le_refl _)⟩
theorem kd_ne {n k : Nat} {x y : D} (hx : Kd n x) (hy : Kd k y) (h1 : n <= 64 := by decide) (h2 : k <= 64 := by decide) : ∃ c : Bool, gNe x y = some (.bl c) /\ (c = false ↔ x = y) := by
  obtain ⟨b, hx⟩ := hx
  obtain ⟨b', hy⟩ := hy
  obtain ⟨c, e, h⟩ := eqB_RN hx hy h1 h2
  refine ⟨!c, by unfold gNe; rw [e]; rfl, ?_⟩
  rw [<- h]; cases c <;> simp
theorem kd_same {n : Nat} {x : D} (hx : Kd n x) (h1 : n <= 64 := by decide) : gNe x x = some (.bl false) := by
  obtain ⟨c, e, h⟩ := kd_ne hx hx h1 h1
  rw [e, h.mpr rfl]
theorem kd_eq {n k : Nat} {x y : D} (hx : Kd n x) (hy : Kd k y) (h1 : n <= 64 := by decide) (h2 : k <= 64 := by decide) : ∃ c : Bool, gEq x y = some (.bl c) /\ (c = true ↔ x = y) := by
  obtain ⟨b, hx⟩ := hx
  obtain ⟨b', hy⟩ := hy
  obtain ⟨c, e, h⟩ := eqB_RN hx hy h1 h2
  exact ⟨c, by unfold gEq; rw [e]; rfl, h⟩
theorem kd_notin {n k : Nat} {x : D} {ds : List D} (hx : Kd n x) (hd : Kd k (.lst ds)) (h1 : n <= 64 := by decide) (h2 : k <= 64 := by decide) : ∃ c : Bool, gNotInA x (.lst ds) = some (.bl c) /\ (c = false ↔ x ∈ ds) := by
  obtain ⟨b, hx⟩ := hx
  obtain ⟨b', hd⟩ := hd
  obtain ⟨c, _, e, h⟩ := gIn_lst hx hd h1 h2
  refine ⟨!c, e, ?_⟩
  rw [<- h]; cases c <;> simp
theorem p200 : (1000 : Int) < 2 ^ 200 := by decide
theorem insD_perm {le : D -> D -> Bool} {x : D} : ∀ {l : List D}, (insD le x l).Perm (x :: l)
  | [] => List.Perm.refl _
  | y :: l => by
    rw [insD]
    split
    · exact List.Perm.refl _
    · exact ((insD_perm (l := l)).cons y).trans (List.Perm.swap ..)
theorem isortD_perm {le : D -> D -> Bool} : ∀ {l : List D}, (isortD le l).Perm l
  | [] => List.Perm.refl _
  | x :: l => by
    rw [isortD]
    exact insD_perm.trans ((isortD_perm (l := l)).cons x)
theorem leD_int {a b : Int} : leD (.int a) (.int b) = !decide (b < a) := by
  have ea : encD (.int a) = .int a := by unfold encD; rw [toPy]; rfl
  have eb : encD (.int b) = .int b := by unfold encD; rw [toPy]; rfl
  show (!PyProof.Rows.lexLt PyProof.Rows.itemOrd (PySem.W.keyToks (encD (.int b))) (PySem.W.keyToks (encD (.int a)))) = _
  rw [ea, eb, PySem.W.keyToks, PySem.W.keyToks]
  show (!(decide (b < a) || (!decide (a < b) && false))) = _
  simp
def insI (x : Int) : List Int -> List Int
  | [] => [x]
  | y :: r => if x <= y then x :: y :: r else y :: insI x r
def srtI (ns : List Int) : List Int := ns.foldr insI []
theorem insD_int {x : Int} : ∀ {l : List Int}, insD leD (.int x) (l.map .int) = (insI x l).map .int
  | [] => rfl
  | y :: l => by
    rw [List.map_cons, insD, leD_int, insI]
    by_cases h : x <= y
    · rw [if_pos h, if_pos (by simp; omega)]; rfl
    · rw [if_neg h, if_neg (by simp; omega), insD_int]; rfl
theorem isortD_int : ∀ {l : List Int}, isortD leD (l.map .int) = (srtI l).map .int
  | [] => rfl
  | x :: l => by
    rw [List.map_cons, isortD, isortD_int, insD_int]; rfl
theorem toPys_strs : ∀ {l : List Str}, toPys (l.map .str) = some (l.map .str)
  | [] => by rw [List.map_nil, toPys]; rfl
  | x :: l => by rw [List.map_cons, toPys, toPy, toPys_strs]; rfl
theorem strs_perm {l : List Str} {ds : List D} (h : ds.Perm (l.map .str)) : ∃ l' : List Str, ds = l'.map .str /\ l'.Perm l := by
  have hs : ∀ d ∈ ds, ∃ x, d = D.str x := fun d hd => by
    obtain ⟨x, _, e⟩ := List.mem_map.mp (h.mem_iff.mp hd)
    exact ⟨x, e.symm⟩
  refine ⟨ds.map fun d => match d with | .str x => x | _ => "", ?_, ?_⟩
  · rw [List.map_map]
    conv => lhs; rw [<- List.map_id ds]
    apply List.map_congr_left
    intro d hd
    obtain ⟨x, rfl⟩ := hs d hd
    rfl
  · have := h.map (fun d => match d with | .str x => x | _ => "")
    rw [List.map_map] at this
    have e : (fun d => match d with | D.str x => x | _ => ("" : Str)) ∘ D.str = id := by funext x; rfl
    rw [e, List.map_id] at this
    exact this
theorem sorted_strs {l : List Str} : ∃ l' : List Str, gSorted [.lst (l.map .str)] = some (.lst (l'.map .str)) /\ l'.Perm l := by
  obtain ⟨l', e, hp⟩ := strs_perm (isortD_perm (le := leD) (l := l.map .str))
  refine ⟨l', ?_, hp⟩
  unfold gSorted
  simp only [keysOf]
  unfold sortB
  rw [toPys_strs]
  have h1 : alikeB (l.map PyData.str) = true := by
    unfold alikeB
    rw [List.all_eq_true]
    intro p hp
    rw [List.all_eq_true]
    intro q hq
    obtain ⟨a, _, rfl⟩ := List.mem_map.mp hp
    obtain ⟨b, _, rfl⟩ := List.mem_map.mp hq
    rw [PySem.W.alike]
  have h2 : sortOkB (l.map PyData.str) = true := by
    unfold sortOkB
    rw [Bool.or_eq_true, Bool.or_eq_true]
    refine .inr (.inl ?_)
    rw [List.all_eq_true]
    intro p hp
    obtain ⟨a, _, rfl⟩ := List.mem_map.mp hp
    rfl
  have h3 : ((l.map PyData.str).all fun p => decide (p.depth <= 16)) = true := by
    rw [List.all_eq_true]
    intro p hp
    obtain ⟨a, _, rfl⟩ := List.mem_map.mp hp
    rw [PyData.depth]; rfl
  simp only [h1, h2, h3, Bool.and_self, if_true, e]
  rfl
theorem append_ok {ds : List D} {x : D} (h : ds.length <= 100000) : gAppend ds [x] = some (.non, ds ++ [x]) := by
  show (if ds.length < sizeLine then some (D.non, ds ++ [x]) else none) = _
  rw [if_pos]
  rw [sizeLine_eq]; omega
theorem extend_ok {ds xs : List D} (h : ds.length + xs.length <= 100000) : gExtend ds [.lst xs] = some (.non, ds ++ xs) := by
  show (if ds.length + xs.length <= sizeLine then some (D.non, ds ++ xs) else none) = _
  rw [if_pos]
  rw [sizeLine_eq]; omega
theorem addT_ok {xs ys : List D} (h : xs.length + ys.length <= 100000) : gAdd (.tup xs) (.tup ys) = some (.tup (xs ++ ys)) := by
  exact if_pos (fitk h)
theorem addL_ok {xs ys : List D} (h : xs.length + ys.length <= 100000) : gAdd (.lst xs) (.lst ys) = some (.lst (xs ++ ys)) := by
  exact if_pos (fitk h)
theorem small_ok {i : Int} (h0 : -1000000 < i) (h1 : i < 1000000) : smallI i = true := by
  unfold smallI
  rw [Bool.and_eq_true, decide_eq_true_eq, decide_eq_true_eq]
  omega
end MI
namespace MI
open PySem PySem.Spec L2
def putD (f : Str) (d : D) : List (Str × D) -> List (Str × D)
  | [] => [(f, d)]
  | (g, x) :: r => if g = f then (g, d) :: r else (g, x) :: putD f d r
section
variable {K : KX} {Z : Hp} {al : List Addr}
theorem fld_get : ∀ {fvs : List (Str × V)} {fs : List (Str × D)} {f : Str} {d : D}, fvs.map Prod.fst = fs.map Prod.fst -> DVs K Z al (fvs.map Prod.snd) (fs.map Prod.snd) -> fs.lookup f = some d -> ∃ v, fvs.lookup f = some v /\ DV K Z al v d
  | [], [], f, d, _, _, h => by cases h
  | [], _ :: _, f, d, e, _, h => by cases e
  | _ :: _, [], f, d, e, _, h => by cases e
  | (g, v) :: fvs, (g', x) :: fs, f, d, e, r, h => by
    simp only [List.map_cons, List.cons.injEq] at e
    obtain ⟨rfl, e⟩ := e
    cases r with
    | cons r1 r2 =>
      rw [List.lookup_cons] at h ⊢
      by_cases hf : f == g
      · simp only [hf] at h ⊢
        cases h
        exact ⟨v, rfl, r1⟩
      · simp only [hf] at h ⊢
        exact fld_get e r2 h
theorem fld_none : ∀ {fvs : List (Str × V)} {fs : List (Str × D)} {f : Str}, fvs.map Prod.fst = fs.map Prod.fst -> fs.lookup f = none -> fvs.lookup f = none
  | [], [], f, _, _ => rfl
  | [], _ :: _, f, e, _ => by cases e
  | _ :: _, [], f, e, _ => by cases e
  | (g, v) :: fvs, (g', x) :: fs, f, e, h => by
    simp only [List.map_cons, List.cons.injEq] at e
    obtain ⟨rfl, e⟩ := e
    rw [List.lookup_cons] at h ⊢
    by_cases hf : f == g
    · simp only [hf] at h; cases h
    · simp only [hf] at h ⊢
      exact fld_none e h
theorem fld_put : ∀ {fvs : List (Str × V)} {fs : List (Str × D)} {f : Str} {v : V} {d : D}, fvs.map Prod.fst = fs.map Prod.fst -> DVs K Z al (fvs.map Prod.snd) (fs.map Prod.snd) -> DV K Z al v d ->
    (putF f v fvs).map Prod.fst = (putD f d fs).map Prod.fst /\ DVs K Z al ((putF f v fvs).map Prod.snd) ((putD f d fs).map Prod.snd)
  | [], [], f, v, d, _, _, h => ⟨rfl, .cons h .nil⟩
  | [], _ :: _, f, v, d, e, _, h => by cases e
  | _ :: _, [], f, v, d, e, _, h => by cases e
  | (g, y) :: fvs, (g', x) :: fs, f, v, d, e, r, h => by
    simp only [List.map_cons, List.cons.injEq] at e
    obtain ⟨rfl, e⟩ := e
    cases r with
    | cons r1 r2 =>
      rw [putF, putD]
      by_cases hf : g = f
      · rw [if_pos hf, if_pos hf]
        exact ⟨by simp [e], .cons h r2⟩
      · rw [if_neg hf, if_neg hf]
        obtain ⟨i1, i2⟩ := fld_put (f := f) e r2 h
        exact ⟨by simp [i1], .cons r1 i2⟩
end
def insAt (c : Nat) (o : D) (m : MS) : Option (Nat × List (Str × D)) := match o with
  | .obj n => match m.st[n]? with
    | some (.ins c' fs) => if c' = c then some (n, fs) else none
    | _ => none
  | _ => none
section
variable {K : KX} {cls : Nat -> Addr} {own : Nat -> Bool} {G : Gh} {al : List Addr} {m : MS} {σ : St} {H : Hp}
theorem insAt_ok {c n : Nat} {o : D} {fs : List (Str × D)} {v : V} (r : Rst K cls own G al m σ H) (e : insAt c o m = some (n, fs)) (dv : DV K (Zof G) al v o) :
    ∃ a dx fvs, v = .ref a /\ o = .obj n /\ al[n]? = some a /\ m.st[n]? = some (.ins c fs) /\ G a = some (.st n, .ins (cls c) dx fvs) /\ H a = some (.ins (cls c) dx fvs) /\ fvs.map Prod.fst = fs.map Prod.fst /\ DVs K (Zof G) al (fvs.map Prod.snd) (fs.map Prod.snd) := by
  unfold insAt at e
  split at e
  case h_2 => cases e
  next k =>
  split at e
  case h_2 => cases e
  next c' fs' e1 =>
  split at e
  case isFalse => cases e
  next hc =>
  cases e
  subst hc
  cases dv with
  | obj ha =>
    obtain ⟨a, h1, o1, h2, dx, fvs, rfl, h3, h4⟩ := r.hst.sto _ _ e1
    rw [ha] at h1; cases h1
    exact ⟨_, dx, fvs, rfl, rfl, ha, e1, h2, r.hst.gh _ _ _ h2, h3, h4⟩
end
def eFld (c : Nat) (fo : Den D) (f : Str) : Den D := fo.bind fun o => fun m => match insAt c o m with
  | some (_, fs) => match fs.lookup f with
    | some d => .ok d m
    | none => .bad
  | none => .bad
def sFldS (c : Nat) (fo : Den D) (f : Str) (fv : Den D) : Den Fl := fv.bind fun v => fo.bind fun o => fun m => match insAt c o m with
  | some (n, fs) => if fs.length < 1000 then .ok .nx { m with st := m.st.set n (.ins c (putD f v fs)) } else .bad
  | none => .bad
def eShareD (f : Den D) : Den D := f.bind fun d => fun m => match d with
  | .dic ds => .ok (.obj m.st.length) { m with st := m.st ++ [.dic ds] }
  | _ => .bad
def sPutD (fo : Den D) (fk : Den Hd) (fv : Den D) : Den Fl := fv.bind fun v => fo.bind fun o => fk.bind fun hk => fun m => match o with
  | .obj n => match m.st[n]?, look hk m with
    | some (.dic ds), some k => match gSet (.dic ds) k v with
      | some (.dic ds') => .ok .nx { m with st := m.st.set n (.dic ds') }
      | _ => .bad
    | _, _ => .bad
  | _ => .bad
def eMutO (g : List D -> List D -> Option (D × List D)) (fo : Den D) (fa : Den (List D)) : Den D := fo.bind fun o => fun m => match o with
  | .obj n => match m.st[n]? with
    | some (.lst _) => match fa m with
      | .ok xs m1 => match m1.st[n]? with
        | some (.lst ds) => match g ds xs with
          | some (z, ds') => .ok z { m1 with st := m1.st.set n (.lst ds') }
          | none => .bad
        | _ => .bad
      | .bad => .bad
    | _ => .bad
  | _ => .bad
section
variable {cls : Nat -> Addr} {own : Nat -> Bool} {X : Cx} {a b c o : Expr} {fk : Den Hd} {fo fv : Den D} {pos ps npos apos cpos pos' : Pos} {i n : Nat} {x f : Str} {es : List Expr} {fs : Den (List Hd)}
theorem se_fld (hc : Cls X.K (cls n)) (hn : NoAttr X.K (cls n) f) (ho : SE cls own X o fo) (hb : attributeBase o f X.env (eval o X.env) = eval o X.env := by rfl) : SE cls own X (.Attribute o f pos) (eFld n fo f) := by
  refine pe_imp (pe_fld ho hb) fun σ H Q q => ?_
  obtain ⟨G, al, m, d, m', r, e, k⟩ := q
  obtain ⟨od, m1, e1, e⟩ := bind_ok e
  split at e
  case h_2 => cases e
  next j fs e2 =>
  split at e
  case h_2 => cases e
  next d' e3 =>
  cases e
  refine ⟨G, al, m, od, _, r, e1, fun G1 al1 v H1 ev1 r1 dv => ?_⟩
  obtain ⟨ad, dx, fvs, rfl, _, _, _, _, hh, h1, h2⟩ := insAt_ok r1 e2 dv
  obtain ⟨w, l, dw⟩ := fld_get h1 h2 e3
  exact ⟨ad, _, dx, fvs, w, rfl, hh, hc, hn, l, k G1 al1 w H1 ev1 r1 dw⟩
theorem ss_fld (hc : Cls X.K (cls n)) (hn : NoAttr X.K (cls n) f) (ho : SE cls own X o fo) (hv : SE cls own X a fv) (hs : swapsWith a (some (.Attribute o f pos')) pos.line X.env = pure false := by rfl) :
    SS cls own X (.Assign [.Attribute o f pos'] a pos) (sFldS n fo f fv) := by
  refine ps_imp (ps_fld ho hv hs) fun E σ H q => ?_
  obtain ⟨G, al, m, fl, m', r, e, k⟩ := q
  obtain ⟨vd, m1, e1, e⟩ := bind_ok e
  obtain ⟨od, m2, e2, e⟩ := bind_ok e
  split at e
  case h_2 => cases e
  next j fs e3 =>
  split at e
  case isFalse => cases e
  next hl =>
  cases e
  refine ⟨G, al, m, vd, m1, r, e1, fun G1 al1 v H1 ev1 r1 dv => ⟨G1, al1, m1, od, m2, r1, e2, fun G2 al2 w H2 ev2 r2 dw => ?_⟩⟩
  obtain ⟨ad, dx, fvs, rfl, _, hal, hst, hg, hh, h1, h2⟩ := insAt_ok r2 e3 dw
  obtain ⟨p1, p2⟩ := fld_put (f := f) h1 h2 (dv.ev ev2)
  have hfl : fvs.length < 1000 := by
    have := congrArg List.length h1
    rw [List.length_map, List.length_map] at this
    omega
  obtain ⟨ev3, r3⟩ := r2.stw (o' := .ins (cls n) dx (putF f v fvs)) (ob' := .ins n (putD f vd fs)) hst hal hg ⟨dx, _, rfl, p1, p2⟩
  exact ⟨ad, _, dx, fvs, rfl, hh, hc, hn, hfl, k _ al2 σ _ ((ev1.trans ev2).trans ev3) r3⟩
theorem se_shareD {f : Den D} (h : SF cls own X a f) : SE cls own X a (eShareD f) := by
  refine pe_imp h fun σ H Q q => ?_
  obtain ⟨G, al, m, d, m', r, e, k⟩ := q
  obtain ⟨d0, m1, e1, e⟩ := bind_ok e
  split at e
  case h_2 => cases e
  next ds =>
  cases e
  refine ⟨G, al, m, _, m1, r, e1, fun G1 al1 p o H1 ev1 r1 hp hn c => ?_⟩
  obtain ⟨ev2, r2⟩ := r1.share (ob := .dic ds) hp hn c
  exact k _ _ _ _ (ev1.trans ev2) r2 (.obj (by rw [<- r1.hst.len, List.getElem?_append_right (Nat.le_refl _)]; simp))
theorem ss_putD (hu : X.A.units + 65 < cLine) (ho : SE cls own X c fo) (hk : SH cls own X b fk) (hv : SE cls own X a fv)
    (hs : swapsWithSole [.Subscript c b ps] a pos.line X.env = pure false := by rfl) (hw : swappedStores [.Subscript c b ps] a X.env = pure none := by rfl)
    (ha : ∀ z, assign (.Subscript c b ps) X.env z = (holding [z] (eval c X.env) >>= fun o => holding [z, o] (eval b X.env) >>= fun j => standAt ps >>= fun _ => holding [z, o, j] (setItem o j z) >>= fun _ => release [z, o, j] []) := by intro _; rfl) :
    SS cls own X (.Assign [.Subscript c b ps] a pos) (sPutD fo fk fv) := by
  refine ps_imp (ps_asg hv (pg_sub ho hk (set_A hu) ha) hs hw) fun E σ H q => ?_
  obtain ⟨G, al, m, fl, m', r, e, k⟩ := q
  obtain ⟨v, m1, e1, e⟩ := bind_ok e
  obtain ⟨o, m2, e2, e⟩ := bind_ok e
  obtain ⟨hh, m3, e3, e⟩ := bind_ok e
  split at e
  case h_2 => cases e
  rename_i n _
  split at e
  case h_2 => cases e
  next ds dk e4 l4 =>
  split at e
  case h_2 => cases e
  next ds' e5 =>
  cases e
  refine ⟨G, al, m, v, m1, r, e1, fun G1 al1 vv H1 ev1 r1 dv => ⟨G1, al1, m1, _, m2, r1, e2, fun G2 al2 ov H2 ev2 r2 dvo => ⟨G2, al2, m2, hh, m3, r2, e3, fun G3 al3 y H3 ev3 r3 hy => ?_⟩⟩⟩
  have dvo' := dvo.ev ev3
  cases dvo' with
  | obj hal =>
    obtain ⟨a', h1, o1, h2, h3⟩ := r3.hst.sto n _ e4
    rw [hal] at h1; cases h1
    refine ok_set r3 (r3.hst.gh _ _ _ h2) (d := .dic ds) h3 (look_cr r3 hy l4) ((dv.ev ev2).ev ev3) e5 fun o' c' => ?_
    obtain ⟨ev4, r4⟩ := r3.stw (ob' := .dic ds') e4 hal h2 c'
    exact k _ al3 σ _ (((ev1.trans ev2).trans ev3).trans ev4) r4
theorem eMutO_ok {g : List D -> List D -> Option (D × List D)} {fo : Den D} {fa : Den (List D)} {m m' : MS} {z : D} (e : eMutO g fo fa m = .ok z m') :
    ∃ n m0 ds0 xs m1 ds ds', fo m = .ok (.obj n) m0 /\ m0.st[n]? = some (.lst ds0) /\ fa m0 = .ok xs m1 /\ m1.st[n]? = some (.lst ds) /\ g ds xs = some (z, ds') /\ m' = { m1 with st := m1.st.set n (.lst ds') } := by
  obtain ⟨o, m0, e0, e⟩ := bind_ok e
  split at e
  · next n =>
    split at e
    · next ds0 q0 =>
      split at e
      · next xs m1 e1 =>
        split at e
        · next ds e2 =>
          split at e
          · next z' ds' e3 => cases e; exact ⟨n, m0, ds0, xs, m1, ds, ds', e0, q0, e1, e2, e3, rfl⟩
          · cases e
        · cases e
      · cases e
    · cases e
  · cases e
theorem sto_lst {K : KX} {G : Gh} {al : List Addr} {m : MS} {σ : St} {H : Hp} {n : Nat} {v : V} {ds : List D} (r : Rst K cls own G al m σ H) (dv : DV K (Zof G) al v (.obj n)) (e : m.st[n]? = some (.lst ds)) :
    ∃ p us, v = .ref p /\ al[n]? = some p /\ G p = some (.st n, .lst us) /\ H p = some (.lst us) /\ DVs K (Zof G) al us ds := by
  cases dv with
  | obj ha =>
    obtain ⟨a, h1, o1, h2, us, rfl, h3⟩ := r.hst.sto _ _ e
    rw [ha] at h1; cases h1
    exact ⟨_, us, rfl, ha, h2, r.hst.gh _ _ _ h2, h3⟩
theorem se_appendO (ho : SE cls own X o fo) (ha : SHs cls own X (a :: es) fs)
    (hbase : attributeBase o "append" X.env (eval o X.env) = eval o X.env := by rfl)
    (hfew : ((backTo cpos (starEach (a :: es) X.env)).all (fun x => !x.1) && (backToKw cpos (keywordEach [] X.env)).all (fun x => x.1.isSome)
      && decide ((a :: es).length + ([] : List Keyword).length + (if ([] : List Keyword).isEmpty then 0 else 1) < 30)) = true := by rfl)
    (hline : (apos.endLine == cpos.line) = true := by rfl) (hs : starEach (a :: es) X.env = (false, eval a X.env) :: starEach es X.env := by rfl) (hplain : (backTo cpos (starEach es X.env)).any (·.1) = false := by rfl) :
    SE cls own X (.Call (.Attribute o "append" apos) (a :: es) [] cpos) (eMutO gAppend fo (aVals fs)) := by
  refine pe_imp (pe_bm PySem.F.plainAttrs_list PySem.F.slot_list_append PySem.F.type_list_append mt_append ho ha hbase hfew hline hs hplain) fun σ H Q q => ?_
  obtain ⟨G, al, m, d, m', r, e, k⟩ := q
  obtain ⟨n, m0, ds0, xs, m1, ds, ds', e0, q0, e1, e2, e3, rfl⟩ := eMutO_ok e
  obtain ⟨hs, e1, l⟩ := aVals_ok e1
  refine ⟨G, al, m, _, m0, r, e0, fun G0 al0 v0 H0 ev0 r0 dv0 => ?_⟩
  obtain ⟨p, us0, rfl, _, _, h0, _⟩ := sto_lst r0 dv0 q0
  refine ⟨.inl ⟨rfl, us0, .inl (.inl h0)⟩, G0, al0, m0, hs, m1, r0, e1, fun G1 al1 v H1 ev1 r1 hv1 => ?_⟩
  obtain ⟨p', us, hp', hal, g1, h1, c1⟩ := sto_lst r1 (dv0.ev ev1) e2
  cases hp'
  unfold gAppend at e3
  split at e3
  · next y =>
    split at e3
    · next hf =>
      cases e3
      have dv := looksV_dv hv1 l
      cases dv with
      | cons d1 d2 =>
        cases d2
        obtain ⟨ev2, r2⟩ := r1.stw (o' := .lst (us ++ [_])) (ob' := .lst (ds ++ [y])) e2 hal g1 ⟨_, rfl, c1.append (.cons d1 .nil)⟩
        exact ⟨p, us, _, rfl, rfl, h1, by rw [c1.length]; exact hf, k _ _ _ _ ((ev0.trans ev1).trans ev2) r2 .non⟩
    · cases e3
  · cases e3
end
end MI
namespace MI
open PySem PySem.Spec L2
structure MetG (P : Program) (w : World) (K : PySem.W.Frag) (mg : Str -> Option Value) (base : Heap) (cls : Nat -> Addr) (k : Nat) (c : Nat) (m : Str) (f : Addr) (fd : FuncData) (ps : List Str) (fn : Fn) : Prop where
  ok : FnG P w K mg base k f fd ps (SpD ⟨K, P, w⟩ cls ps.length fn)
  cl : Cls K (cls c)
  me : Meth K (cls c) m f
structure MakG (P : Program) (w : World) (K : PySem.W.Frag) (mg : Str -> Option Value) (base : Heap) (cls : Nat -> Addr) (k : Nat) (c : Nat) (x : Str) (f : Addr) (fd : FuncData) (ps : List Str) (fn : Fn) : Prop where
  ok : FnG P w K mg base k f fd ps (SpD ⟨K, P, w⟩ cls ps.length fn)
  gl : mg x = some (.ref (cls c))
  mak : Mk K (cls c) f
def eMeth (c : Nat) (nm : Str) (fn : Fn) (sp : List Src) (dd : List D) (fo : Den D) (fs fk : Den (List D)) : Den D := fo.bind fun o => fun m0 => match insAt c o m0 with
  | some (_, fl) => if (fl.lookup nm).isNone then (fs.bind fun ds => fk.bind fun es => fun m => match fn (arr sp (o :: ds) dd es) m.st with
      | some (d, st) => .ok d { m with st := st }
      | none => .bad) m0 else .bad
  | none => .bad
def eMake (c : Nat) (fn : Fn) (sp : List Src) (dd : List D) (fs fk : Den (List D)) : Den D := fs.bind fun ds => fk.bind fun es => fun m => match fn (arr sp (.obj m.st.length :: ds) dd es) (m.st ++ [.ins c []]) with
  | some (.non, st) => .ok (.obj m.st.length) { m with st := st }
  | _ => .bad
section
variable {cls : Nat -> Addr} {own : Nat -> Bool} {X : Cx} {k j n c : Nat} {f : Addr} {fd : FuncData} {ps ks : List Str} {fn : Fn} {x nm : Str} {p pos apos : Pos} {e o : Expr} {es : List Expr} {fo : Den D} {fs fk : Den (List Hd)} {kws : List Keyword} {sp : List Src} {dvs : List V} {dds : List D} {mv : List Value}
theorem meth_core {np : Nat} (hnp : ∀ vs zs : List V, vs.length = n -> zs.length = ks.length -> (arr sp vs dvs zs).length = np) (hdd : DVs X.kx (fun _ => none) [] dvs dds) (hl1 : ∀ m hs m', fs m = .ok hs m' -> hs.length + 1 = n) (hl2 : ∀ m hs m', fk m = .ok hs m' -> hs.length = ks.length)
    {σ : St} {H : Hp} {Q : VK} (q : tD X.kx cls own (eMeth c nm fn sp dds fo (aVals fs) (aVals fk)) σ H Q) :
    tD X.kx cls own fo σ H fun v H0 => ∃ a dx fvs, v = .ref a /\ H0 a = some (.ins (cls c) dx fvs) /\ fvs.lookup nm = none /\
      tHs X.kx cls own fs σ H0 fun vs H1 => tHs X.kx cls own fk σ H1 fun zs H2 => (V.ref a :: vs).length = n /\ zs.length = ks.length /\ SpD X.kx cls np fn (arr sp (V.ref a :: vs) dvs zs) H2 Q L2.E0 := by
  obtain ⟨G, al, m, d, m', r, e, k⟩ := q
  obtain ⟨od, m0, e0, e⟩ := bind_ok e
  split at e
  case h_2 => cases e
  next j fl ei =>
  split at e
  case isFalse => cases e
  next hlk =>
  obtain ⟨as, m1, e1, e⟩ := bind_ok e
  obtain ⟨bs, m2, e2, e⟩ := bind_ok e
  obtain ⟨hs, e1, l1⟩ := aVals_ok e1
  obtain ⟨gs, e2, l2⟩ := aVals_ok e2
  split at e
  · next d0 st0 e3 =>
    cases e
    refine ⟨G, al, m, od, m0, r, e0, fun G0 al0 v H0 ev0 r0 dv0 => ?_⟩
    obtain ⟨ad, dx, fvs, rfl, rfl, _, _, _, hh, h1, _⟩ := insAt_ok r0 ei dv0
    refine ⟨ad, dx, fvs, rfl, hh, fld_none h1 (Option.isNone_iff_eq_none.mp hlk), G0, al0, m0, hs, m1, r0, e1, fun G1 al1 vs H1 ev1 r1 hv1 => ⟨G1, al1, m1, gs, m2, r1, e2, fun G2 al2 zs H2 ev2 r2 hv2 => ?_⟩⟩
    have n1 : (V.ref ad :: vs).length = n := by rw [List.length_cons, hvs_len hv1]; exact hl1 _ _ _ e1
    have n2 : zs.length = ks.length := (hvs_len hv2).trans (hl2 _ _ _ e2)
    have d1 := looksV_dv (hv1.ev ev2) l1
    have d2 := looksV_dv hv2 l2
    have hdd' : DVs X.kx (Zof G2) al2 dvs dds := hdd.mono (fun a o (z : (none : Option HO) = some o) => nomatch z) (List.nil_prefix)
    exact ⟨n1, n2, call_core (t := tNil) (E := L2.E0) (hnp _ zs n1 n2) r2 (arr_dvs (.cons ((dv0.ev ev1).ev ev2) d1) hdd' d2) e3 fun G' al' v H' ev r' dvv => k G' al' v H' (((ev0.trans ev1).trans ev2).trans ev) r' dvv⟩
  · cases e
theorem ym {pl : Sem Bool} (F : MetG X.prog X.w X.K X.mg X.base cls j c nm f fd ps fn) (hr : Room k X.A) (gd : X.A.guards = some []) (hb : KBn X.K fd ps n ks (fun us ws => arr sp us mv ws) (fun vs zs => arr sp vs dvs zs))
    (hdd : DVs X.kx (fun _ => none) [] dvs dds) (ho : SE cls own X o fo) (ha : SHs cls own X (e :: es) fs) (hkw : SKs cls own X kws fk) (hnp : ∀ vs zs : List V, vs.length = n -> zs.length = ks.length -> (arr sp vs dvs zs).length = ps.length) (hl1 : ∀ m hs m', fs m = .ok hs m' -> hs.length + 1 = n) (hl2 : ∀ m hs m', fk m = .ok hs m' -> hs.length = ks.length)
    (hjk : j <= k := by decide)
    (hall : (backToKw pos (keywordEach kws X.env)).all (·.1.isSome) = true := by rfl) (hks : (backToKw pos (keywordEach kws X.env)).filterMap (·.1) = ks := by rfl)
    (he : starEach (e :: es) X.env = (false, eval e X.env) :: starEach es X.env := by rfl)
    (hpl : ((backTo pos (starEach (e :: es) X.env)).any (·.1) || (backToKw pos (keywordEach kws X.env)).any (·.1.isNone)) = false := by rfl)
    (ht : eval (.Call (.Attribute o nm apos) (e :: es) kws pos) X.env = (do
      let ov <- eval o X.env
      standAt apos.atName
      let (f, first) <- holding [ov] (getMethod ov nm pl)
      callWith pos f first (backTo pos (starEach (e :: es) X.env)) (backToKw pos (keywordEach kws X.env))) := by rfl) :
    SE cls own X (.Call (.Attribute o nm apos) (e :: es) kws pos) (eMeth c nm fn sp dds fo (aVals fs) (aVals fk)) := by
  refine ⟨fun pins s σ H Q I h => ?_⟩
  have h := meth_core (np := ps.length) hnp hdd hl1 hl2 h
  refine PySem.W.methodCall_KW (pl := pl) (thn (ho.run pins s σ H _ I h) fun u s1 ⟨y, H1, I1, ry, ad, dx, fvs, ex, ea, l, q⟩ => ?_) ht
  subst ex
  obtain rfl : u = Value.ref ad := ry
  refine getmeth_ok I1 ea F.cl F.me l ?_
  refine PySem.W.callWith_KW (first := [.ref ad]) (h₀ := X.base) I.ok.mod.kin F.me.kp hall (thn (ha.run pos pins s1 σ H1 _ I1 q) fun us s2 ⟨vs, H2, I2, r, q⟩ => ?_) hpl he
  refine thn (hkw.run pos pins s2 σ H2 _ I2 q) fun ws s3 ⟨zs, H3, I3, rz, l1, l2, q2⟩ => ⟨I3.kIn, ?_⟩
  rw [hks]
  exact runG (us := .ref ad :: us) (vs := .ref ad :: vs) F.ok (hr.mono hjk) gd hb I3 (.cons rfl r) rz l1 l2 q2
theorem run_makG {pins : List (Addr × Obj)} {σ : St} {H : Hp} {s : Shared} {Q : VK} {us ws : List Value} {vs zs : List V} {C : Addr} {sp : Sp} {g : List Value -> List Value -> List Value} {gV : List V -> List V -> List V} (M : Mk X.K C f) (F : FnG X.prog X.w X.K X.mg X.base k f fd ps sp) (hr : Room (k + 1) X.A) (gd : X.A.guards = some []) (hb : KBn X.K fd ps (n + 1) ks g gV)
    (I : Inv X pins σ H s) (r : Vals vs us) (rz : Vals zs ws) (l1 : vs.length = n) (l2 : zs.length = ks.length)
    (h : ∀ x dx, H x = none -> H dx = none -> dx ≠ x -> sp (gV (.ref x :: vs) zs) (upd (upd H dx (.own x)) x (.ins C dx [])) (fun v H2 => v = .non /\ Q (.ref x) H2) L2.E0) :
    wpAny (model X.prog X.w) X.A (call (.ref C) us (ks.zip ws)) (EP X pins σ Q) X.xe s := by
  have hq := h (s.heap.objs.size + 1) s.heap.objs.size (I.hok.fresh (Nat.le_succ _)) (I.hok.fresh (Nat.le_refl _)) (Nat.ne_of_lt (Nat.lt_succ_self _))
  have I2 := Inv.made (C := C) I
  have rr : Vals (V.ref (s.heap.objs.size + 1) :: vs) (Value.ref (s.heap.objs.size + 1) :: us) := .cons rfl r
  have r2 := hb.rel rr rz
  have n1 : (Value.ref (s.heap.objs.size + 1) :: us).length = n + 1 := by rw [List.length_cons, <- r.length, l1]
  have gd2 : (X.A.under (.builtin "type.__call__" ⟨.ref C :: us, ks.zip ws⟩)).guards = some [] := by
    show pushGuards (Code.guards (.builtin "type.__call__" ⟨.ref C :: us, ks.zip ws⟩)) X.A.guards = some []
    rw [gd]
    rfl
  refine wpAny_call (make_map (f := f) I.kIn M.makes M.init (beq_iff_eq.mp M.fn) (codeAny_mono (F.go _ X.stack _ _ ⟨Value.ref (s.heap.objs.size + 1) :: us, ks.zip ws⟩ (g (Value.ref (s.heap.objs.size + 1) :: us) ws) _ _ L2.E0 (hr.make C us (ks.zip ws)) gd2
    (I2.env0.make C us (ks.zip ws)) (hb.to _ _ ws I2.kIn n1 (rz.length.symm.trans l2)) r2 hq) fun res s' hq' => ?_))
  cases res with
  | error ex => exact pass0 (X := X) pins σ _ _ ex s' I2 hq'
  | ok fl => cases fl with
    | ret u =>
      obtain ⟨v, H', I3, rv, ev, q3⟩ := I2.after hq'
      subst ev
      exact ⟨rv, ⟨V.ref (s.heap.objs.size + 1), H', I3, rfl, q3⟩⟩
    | next => exact hq'.elim
    | brk => exact hq'.elim
    | cont => exact hq'.elim
theorem make_core {np : Nat} (hnp : ∀ vs zs : List V, vs.length = n + 1 -> zs.length = ks.length -> (arr sp vs dvs zs).length = np) (hdd : DVs X.kx (fun _ => none) [] dvs dds) (hl1 : ∀ m hs m', fs m = .ok hs m' -> hs.length = n) (hl2 : ∀ m hs m', fk m = .ok hs m' -> hs.length = ks.length)
    {σ : St} {H : Hp} {Q : VK} (q : tD X.kx cls own (eMake c fn sp dds (aVals fs) (aVals fk)) σ H Q) :
    tHs X.kx cls own fs σ H fun vs H1 => tHs X.kx cls own fk σ H1 fun zs H2 => vs.length = n /\ zs.length = ks.length /\ ∀ x dx, H2 x = none -> H2 dx = none -> dx ≠ x ->
      SpD X.kx cls np fn (arr sp (.ref x :: vs) dvs zs) (upd (upd H2 dx (.own x)) x (.ins (cls c) dx [])) (fun v H3 => v = .non /\ Q (.ref x) H3) L2.E0 := by
  obtain ⟨G, al, m, d, m', r, e, k⟩ := q
  obtain ⟨as, m1, e1, e⟩ := bind_ok e
  obtain ⟨bs, m2, e2, e⟩ := bind_ok e
  obtain ⟨hs, e1, l1⟩ := aVals_ok e1
  obtain ⟨gs, e2, l2⟩ := aVals_ok e2
  split at e
  · next st0 e3 =>
    cases e
    refine ⟨G, al, m, hs, m1, r, e1, fun G1 al1 vs H1 ev1 r1 hv1 => ⟨G1, al1, m1, gs, m2, r1, e2, fun G2 al2 zs H2 ev2 r2 hv2 => ?_⟩⟩
    have n1 : vs.length = n := (hvs_len hv1).trans (hl1 _ _ _ e1)
    have n2 : zs.length = ks.length := (hvs_len hv2).trans (hl2 _ _ _ e2)
    refine ⟨n1, n2, fun x dx hx hdx hne => ?_⟩
    have r3 : Rst X.kx cls own G2 al2 m2 σ (upd (upd H2 dx (.own x)) x (.ins (cls c) dx [])) := (r2.fresh hdx).fresh (by rw [upd_ne (Ne.symm hne)]; exact hx)
    obtain ⟨ev3, r4⟩ := r3.share (ob := .ins c []) upd_same (r2.hst.nog hx) ⟨dx, [], rfl, rfl, .nil⟩
    have dx0 : DV X.kx (Zof (putG G2 x (.st m2.st.length) (.ins (cls c) dx []))) (al2 ++ [x]) (.ref x) (.obj m2.st.length) := .obj (by rw [<- r2.hst.len, List.getElem?_append_right (Nat.le_refl _)]; simp)
    have d1 := (looksV_dv (hv1.ev ev2) l1).ev ev3
    have d2 := (looksV_dv hv2 l2).ev ev3
    have hdd' : DVs X.kx (Zof (putG G2 x (.st m2.st.length) (.ins (cls c) dx []))) (al2 ++ [x]) dvs dds := hdd.mono (fun a o (z : (none : Option HO) = some o) => nomatch z) (List.nil_prefix)
    refine call_core (t := tNil) (E := L2.E0) (hnp _ zs (by rw [List.length_cons, n1]) n2) r4 (arr_dvs (.cons dx0 d1) hdd' d2) e3 fun G' al' v H' ev r' dvv => ⟨?_, k G' al' _ H' (((ev1.trans ev2).trans ev3).trans ev) r' (dx0.ev ev)⟩
    cases dvv
    rfl
  · cases e
theorem yk0 (F : MakG X.prog X.w X.K X.mg X.base cls j c x f fd ps fn) (hr : Room k X.A) (gd : X.A.guards = some []) (hb : KBn X.K fd ps 1 ks (fun us ws => arr sp us mv ws) (fun vs zs => arr sp vs dvs zs))
    (hdd : DVs X.kx (fun _ => none) [] dvs dds) (hkw : SKs cls own X kws fk) (hnp : ∀ vs zs : List V, vs.length = 1 -> zs.length = ks.length -> (arr sp vs dvs zs).length = ps.length) (hl2 : ∀ m hs m', fk m = .ok hs m' -> hs.length = ks.length)
    (hjk : j + 1 <= k := by decide) (hg : Gl X x := by rfl)
    (hall : (backToKw pos (keywordEach kws X.env)).all (·.1.isSome) = true := by rfl) (hks : (backToKw pos (keywordEach kws X.env)).filterMap (·.1) = ks := by rfl)
    (hdb : (x == ("__debug__" : Str)) = false := by decide) (hpl : ((backTo pos (starEach [] X.env)).any (·.1) || (backToKw pos (keywordEach kws X.env)).any (·.1.isNone)) = false := by rfl) :
    SE cls own X (.Call (.Name x p) [] kws pos) (eMake c fn sp dds (aVals aNil) (aVals fk)) := by
  refine ⟨fun pins s σ H Q I h => ?_⟩
  have h := make_core (np := ps.length) (n := 0) hnp hdd (fun m hs m' h => aNil_len h) hl2 h
  refine wpAny_Call_Name_kw (ld_glob I hg F.gl ?_ hdb)
  refine PySem.W.callWith_KW0 (h₀ := X.base) I.ok.mod.kin F.mak.kp hall ?_ hpl
  obtain ⟨G1, al1, m1, hs, m2, r1, e1, q⟩ := h
  cases e1
  refine thn (hkw.run pos pins s σ H _ I (q G1 al1 [] H .refl r1 .nil)) fun ws s3 ⟨zs, H3, I3, rz, l1, l2, q2⟩ => ⟨I3.kIn, ?_⟩
  rw [hks]
  exact run_makG (us := []) (vs := []) F.mak F.ok (hr.mono hjk) gd hb I3 .nil rz rfl l2 q2
end
end MI
namespace MI
open PySem PySem.Spec L2
mutual
def flat : D -> Bool
  | .non | .bl _ | .int _ | .str _ | .obj _ => true
  | .tup ds => flats ds
  | _ => false
def flats : List D -> Bool
  | [] => true
  | d :: ds => flat d && flats ds
end
def flatO : O -> Bool
  | .lst ds => flats ds
  | .dic kvs => flats (kvs.map Prod.snd)
  | .dit kvs => flats (kvs.map Prod.fst) && flats (kvs.map Prod.snd)
  | .ins _ fs => flats (fs.map Prod.snd)
  | .exc _ fs => flats (fs.map Prod.snd)
  | .tab _ _ => true
  | .gone => true
def isBox : HO -> Bool
  | .lst _ => true
  | .dK _ => true
  | .ext _ => true
  | _ => false
theorem CO.box {K : KX} {Z : Hp} {al : List Addr} {a : Addr} {o : HO} {d : D} (c : CO K Z al a o d) : isBox o = true := by
  unfold CO at c
  split at c
  · rfl
  · rfl
  · rfl
  · exact c.elim
def callL (L : List Nat) (G : Gh) : Gh := fun a => match G a with
  | some (.slot i, o) => if L.contains i && isBox o then some (.frz, o) else some (.frm, o)
  | x => x
section
variable {K : KX} {cls : Nat -> Addr} {own : Nat -> Bool} {L : List Nat} {G G' : Gh} {al al' : List Addr} {m : MS} {σ : St} {H H' : Hp} {st : Sto} {a : Addr} {o : HO} {t : Tag} {i : Nat}
theorem callL_eq (h : G a = some (t, o)) (n : ∀ i, t ≠ .slot i) : callL L G a = some (t, o) := by
  unfold callL
  rw [h]
  cases t with
  | slot i => exact absurd rfl (n i)
  | _ => rfl
theorem callL_slot (h : G a = some (.slot i, o)) : (callL L G a = some (.frz, o) /\ isBox o = true) \/ callL L G a = some (.frm, o) := by
  unfold callL
  rw [h]
  simp only
  split
  · next hb => rw [Bool.and_eq_true] at hb; exact .inl ⟨rfl, hb.2⟩
  · exact .inr rfl
theorem callL_lent (h : G a = some (.slot i, o)) (hi : L.contains i = true) (hb : isBox o = true) : callL L G a = some (.frz, o) := by
  unfold callL
  rw [h]
  simp only
  rw [if_pos (by rw [hi, hb]; rfl)]
theorem same_callL : Same (Zof G) (Zof (callL L G)) := fun a o h => zof_of (callL_eq (of_zof h) (by intro i z; cases z))
theorem Hst.callL (r : Hst K cls G al st H) : Hst K cls (callL L G) al st H := by
  refine ⟨fun a t o e => ?_, r.len, fun n ob e hg => ?_⟩
  · unfold MI.callL at e
    split at e
    · next i o' e' =>
      split at e
      · cases e; exact r.gh a _ _ e'
      · cases e; exact r.gh a _ _ e'
    · next => exact r.gh a t o e
  · obtain ⟨a, h1, o1, e1, r1⟩ := r.sto n ob e hg
    exact ⟨a, h1, o1, callL_eq e1 (by intro i z; cases z), r1.mono same_callL (List.prefix_refl _)⟩
theorem ev_aftL (ev : Ev (callL L G) al G' al') : Ev G al (aftG G G') al' := by
  refine ⟨fun a o e => ?_, fun a o e => ?_, ev.al⟩
  · have := ev.frz a o (callL_eq e (by intro i z; cases z))
    unfold aftG; rw [e]; exact this
  · have := ev.frm a o (callL_eq e (by intro i z; cases z))
    unfold aftG; rw [e]; exact this
theorem tup_aftL (ev : Ev (callL L G) al G' al') {ob : Obj} {xs : List V} (h : Zof G' a = some (.frz ob (.tup xs))) : Zof (aftG G G') a = some (.frz ob (.tup xs)) := by
  have h := of_zof h
  refine zof_of ?_
  unfold aftG
  split
  · next i o' e' =>
    rcases callL_slot (L := L) e' with ⟨e2, hb⟩ | e2
    · have := ev.frz a o' e2
      rw [h] at this; cases this
      cases hb
    · have := ev.frm a o' e2
      rw [h] at this; cases this
  · exact h
theorem xd_aftL (ev : Ev (callL L G) al G' al') {fvs : List (Str × V)} (h : Zof G' a = some (.xd fvs)) : Zof (aftG G G') a = some (.xd fvs) := by
  have h := of_zof h
  refine zof_of ?_
  unfold aftG
  split
  · next i o' e' =>
    rcases callL_slot (L := L) e' with ⟨e2, hb⟩ | e2
    · have := ev.frz a o' e2
      rw [h] at this; cases this
      cases hb
    · have := ev.frm a o' e2
      rw [h] at this; cases this
  · exact h
theorem own_aftL (ev : Ev (callL L G) al G' al') {ob : Obj} {c : Addr} (h : Zof G' a = some (.frz ob (.own c))) : Zof (aftG G G') a = some (.frz ob (.own c)) := by
  have h := of_zof h
  refine zof_of ?_
  unfold aftG
  split
  · next i o' e' =>
    rcases callL_slot (L := L) e' with ⟨e2, hb⟩ | e2
    · have := ev.frz a o' e2
      rw [h] at this; cases this
      cases hb
    · have := ev.frm a o' e2
      rw [h] at this; cases this
  · exact h
end
section
variable {K : KX} {Z Z' : Hp} {al : List Addr}
mutual
theorem DV.unl (hz : ∀ a ob xs, Z a = some (.frz ob (.tup xs)) -> Z' a = some (.frz ob (.tup xs))) : ∀ {v : V} {d : D}, DV K Z al v d -> flat d = true -> DV K Z' al v d
  | _, _, .non, _ => .non
  | _, _, .bl b, _ => .bl b
  | _, _, .int i, _ => .int i
  | _, _, .str x, _ => .str x
  | _, _, .tup h r, f => by
    rw [flat] at f
    refine .tup ?_ (DVs.unl hz r f)
    rcases h with ⟨o, d, h⟩ | h
    · exact .inl ⟨o, d, hz _ _ _ h⟩
    · exact .inr h
  | _, _, .lst _ _, f => by rw [flat] at f; all_goals (first | cases f | (intros; contradiction))
  | _, _, .scr _, f => by rw [flat] at f; all_goals (first | cases f | (intros; contradiction))
  | _, _, .dicK _ _ _, f => by rw [flat] at f; all_goals (first | cases f | (intros; contradiction))
  | _, _, .ditN _ _ _ _ _ _, f => by rw [flat] at f; all_goals (first | cases f | (intros; contradiction))
  | _, _, .obj h, _ => .obj h
theorem DVs.unl (hz : ∀ a ob xs, Z a = some (.frz ob (.tup xs)) -> Z' a = some (.frz ob (.tup xs))) : ∀ {vs : List V} {ds : List D}, DVs K Z al vs ds -> flats ds = true -> DVs K Z' al vs ds
  | _, _, .nil, _ => .nil
  | _, _, .cons h r, f => by
    rw [flats, Bool.and_eq_true] at f
    exact .cons (DV.unl hz h f.1) (DVs.unl hz r f.2)
end
theorem OO.unl {cls : Nat -> Addr} {a : Addr} {o : HO} (hz : ∀ a ob xs, Z a = some (.frz ob (.tup xs)) -> Z' a = some (.frz ob (.tup xs))) (hx : ∀ a fvs, Z a = some (.xd fvs) -> Z' a = some (.xd fvs)) (hc : ∀ a ob c, Z a = some (.frz ob (.own c)) -> Z' a = some (.frz ob (.own c))) : ∀ {ob : O}, OO K cls Z al a o ob -> flatO ob = true -> OO K cls Z' al a o ob
  | .lst ds, h, f => by
    obtain ⟨xs, e, r⟩ := h
    exact ⟨xs, e, r.unl hz f⟩
  | .dic kvs, h, f => by
    have h : CO K Z al a o (.dic kvs) := h
    show CO K Z' al a o (.dic kvs)
    cases o with
    | dK ks => exact ⟨h.1, h.2.unl hz f⟩
    | _ => exact (show False from h).elim
  | .dit kvs, h, f => by
    have h : CO K Z al a o (.dit kvs) := h
    have f : (flats (kvs.map Prod.fst) && flats (kvs.map Prod.snd)) = true := f
    rw [Bool.and_eq_true] at f
    show CO K Z' al a o (.dit kvs)
    cases o with
    | ext φ =>
      obtain ⟨ob, xs, vs, h1, h2, h3, h4, h5, h6⟩ := h
      exact ⟨ob, xs, vs, h1, h2, h3.unl hz f.1, h4, h5, h6.unl hz f.2⟩
    | _ => exact (show False from h).elim
  | .ins c fs, h, f => by
    obtain ⟨dx, fvs, e, e2, r⟩ := h
    exact ⟨dx, fvs, e, e2, r.unl hz f⟩
  | .exc c fs, h, f => by
    obtain ⟨d, e, x⟩ := h
    refine ⟨d, e, ?_⟩
    rcases x with x | ⟨dx, fvs, e1, z, e2, r⟩
    · exact .inl x
    · exact .inr ⟨dx, fvs, e1, hx _ _ z, e2, r.unl hz f⟩
  | .tab k q, h, _ => by
    obtain ⟨ps, e1, e2, e3, f⟩ := h
    refine ⟨ps, e1, e2, e3, fun pos cv z => ?_⟩
    obtain ⟨c, z1, oc, vs, t, z2, z3⟩ := f pos cv z
    exact ⟨c, z1, oc, vs, t, hc _ _ _ z2, z3⟩
end
section
variable {K : KX} {cls : Nat -> Addr} {own : Nat -> Bool} {L : List Nat} {G G' : Gh} {al al' : List Addr} {m : MS} {σ : St} {H H' : Hp} {st : Sto}
theorem Rst.afterL (r : Rst K cls own G al m σ H) (ev : Ev (callL L G) al G' al') (h : Hst K cls G' al' st H') (f : st.all flatO = true) : Rst K cls own (aftG G G') al' { m with st := st } σ H' := by
  have e0 := ev_aftL ev
  refine ⟨⟨fun a t o e => ?_, h.len, fun n ob e hg => ?_⟩, r.len, fun i d e ho => ?_, fun i d e ho => ?_⟩
  · unfold aftG at e
    split at e
    · next e' =>
      cases e
      rcases callL_slot (L := L) e' with ⟨e2, _⟩ | e2
      · exact h.gh a _ _ (ev.frz a o e2)
      · exact h.gh a _ _ (ev.frm a o e2)
    · exact h.gh a t o e
  · obtain ⟨a, h1, o1, e1, r1⟩ := h.sto n ob e hg
    refine ⟨a, h1, o1, ?_, r1.unl (fun a ob xs q => tup_aftL ev q) (fun a fvs q => xd_aftL ev q) (fun a ob c q => own_aftL ev q) (List.all_eq_true.mp f ob (List.mem_of_getElem? e))⟩
    unfold aftG
    split
    · next i o' e' =>
      rcases callL_slot (L := L) e' with ⟨e2, _⟩ | e2
      · have := ev.frz a o' e2
        rw [e1] at this; cases this
      · have := ev.frm a o' e2
        rw [e1] at this; cases this
    · exact e1
  · obtain ⟨v, h1, h2⟩ := r.val i d e ho
    exact ⟨v, h1, h2.ev e0⟩
  · obtain ⟨a, o, h1, h2, h3⟩ := r.own i d e ho
    exact ⟨a, o, h1, by unfold aftG; rw [h2], h3.mono e0.same e0.al⟩
end
def lendV (L : List Nat) (hs : List Hd) (m : MS) : Option (List D) := match hs with
  | [] => some []
  | .val d :: r => (lendV L r m).map (d :: ·)
  | .slot i :: r => if L.contains i then match m.sl[i]? with
      | some (some d) => (lendV L r m).map (d :: ·)
      | _ => none
    else none
section
variable {K : KX} {cls : Nat -> Addr} {own : Nat -> Bool} {L : List Nat} {G : Gh} {al : List Addr} {m : MS} {σ : St} {H : Hp}
theorem lend_dv (r : Rst K cls own G al m σ H) : ∀ {vs : List V} {hs : List Hd} {ds : List D}, HVs K own G al σ vs hs -> lendV L hs m = some ds -> DVs K (Zof (callL L G)) al vs ds
  | _, _, ds, .nil, e => by rw [lendV] at e; cases e; exact .nil
  | _, _, ds, .cons (h := .val d) (hs := hs) hv hr, e => by
    rw [lendV, Option.map_eq_some_iff] at e
    obtain ⟨ds', e, rfl⟩ := e
    exact .cons (DV.mono same_callL (List.prefix_refl _) hv) (lend_dv r hr e)
  | _, _, ds, .cons (h := .slot i) (hs := hs) hv hr, e => by
    rw [lendV] at e
    split at e
    case isFalse => cases e
    next hi =>
    split at e
    case h_2 => cases e
    next d ed =>
    rw [Option.map_eq_some_iff] at e
    obtain ⟨ds', e, rfl⟩ := e
    obtain ⟨ho, hs⟩ := hv
    obtain ⟨a, o, h1, h2, h3⟩ := r.own i d ed ho
    rw [hs] at h1; cases h1
    exact .cons (CO.frz (zof_of (callL_lent h2 hi h3.box)) (CO.mono same_callL (List.prefix_refl _) h3)) (lend_dv r hr e)
end
def eCallL (L : List Nat) (fn : Fn) (sp : List Src) (dd : List D) (fs fk : Den (List Hd)) : Den D := fs.bind fun hs => fk.bind fun gs => fun m => match lendV L hs m, lendV L gs m with
  | some ds, some es => match fn (arr sp ds dd es) m.st with
    | some (d, st) => if flat d && st.all flatO then .ok d { m with st := st } else .bad
    | none => .bad
  | _, _ => .bad
section
variable {cls : Nat -> Addr} {own : Nat -> Bool} {X : Cx} {k j n : Nat} {f : Addr} {fd : FuncData} {ps ks : List Str} {fn : Fn} {x : Str} {p pos : Pos} {e : Expr} {es : List Expr} {fs fk : Den (List Hd)} {kws : List Keyword} {sp : List Src} {dvs : List V} {dds : List D} {mv : List Value}
theorem callL_core (L : List Nat) {np : Nat} (hnp : ∀ vs zs : List V, vs.length = n -> zs.length = ks.length -> (arr sp vs dvs zs).length = np) (hdd : DVs X.kx (fun _ => none) [] dvs dds) (hl1 : ∀ m hs m', fs m = .ok hs m' -> hs.length = n) (hl2 : ∀ m hs m', fk m = .ok hs m' -> hs.length = ks.length)
    {σ : St} {H : Hp} {Q : VK} (q : tD X.kx cls own (eCallL L fn sp dds fs fk) σ H Q) :
    tHs X.kx cls own fs σ H fun vs H1 => tHs X.kx cls own fk σ H1 fun zs H2 => vs.length = n /\ zs.length = ks.length /\ SpD X.kx cls np fn (arr sp vs dvs zs) H2 Q L2.E0 := by
  obtain ⟨G, al, m, d, m', r, e, k⟩ := q
  obtain ⟨hs, m1, e1, e⟩ := bind_ok e
  obtain ⟨gs, m2, e2, e⟩ := bind_ok e
  split at e
  case h_2 => cases e
  next as bs l1 l2 =>
  split at e
  case h_2 => cases e
  next d0 st0 e3 =>
  split at e
  case isFalse => cases e
  next hf =>
  rw [Bool.and_eq_true] at hf
  cases e
  refine ⟨G, al, m, hs, m1, r, e1, fun G1 al1 vs H1 ev1 r1 hv1 => ⟨G1, al1, m1, gs, m2, r1, e2, fun G2 al2 zs H2 ev2 r2 hv2 => ?_⟩⟩
  have n1 : vs.length = n := (hvs_len hv1).trans (hl1 _ _ _ e1)
  have n2 : zs.length = ks.length := (hvs_len hv2).trans (hl2 _ _ _ e2)
  have d1 := lend_dv r2 (hv1.ev ev2) l1
  have d2 := lend_dv r2 hv2 l2
  have hdd' : DVs X.kx (Zof (callL L G2)) al2 dvs dds := hdd.mono (fun a o (z : (none : Option HO) = some o) => nomatch z) (List.nil_prefix)
  exact ⟨n1, n2, hnp vs zs n1 n2, callL L G2, al2, _, m2.st, d, st0, r2.hst.callL, arr_dvs d1 hdd' d2, e3, fun G' al' v H' ev hst dvv =>
    k (aftG G2 G') al' v H' ((ev1.trans ev2).trans (ev_aftL ev)) (r2.afterL ev hst hf.2) (dvv.unl (fun a ob xs q => tup_aftL ev q) hf.1)⟩
theorem ycL (L : List Nat) (F : DefG X.prog X.w X.K X.mg X.base cls j x f fd ps fn) (hr : Room k X.A) (gd : X.A.guards = some []) (hb : KBn X.K fd ps n ks (fun us ws => arr sp us mv ws) (fun vs zs => arr sp vs dvs zs))
    (hdd : DVs X.kx (fun _ => none) [] dvs dds) (ha : SHs cls own X (e :: es) fs) (hkw : SKs cls own X kws fk) (hnp : ∀ vs zs : List V, vs.length = n -> zs.length = ks.length -> (arr sp vs dvs zs).length = ps.length) (hl1 : ∀ m hs m', fs m = .ok hs m' -> hs.length = n) (hl2 : ∀ m hs m', fk m = .ok hs m' -> hs.length = ks.length)
    (hjk : j <= k := by decide) (hg : Gl X x := by rfl)
    (hall : (backToKw pos (keywordEach kws X.env)).all (·.1.isSome) = true := by rfl) (hks : (backToKw pos (keywordEach kws X.env)).filterMap (·.1) = ks := by rfl)
    (hdb : (x == ("__debug__" : Str)) = false := by decide) (he : starEach (e :: es) X.env = (false, eval e X.env) :: starEach es X.env := by rfl)
    (hpl : ((backTo pos (starEach (e :: es) X.env)).any (·.1) || (backToKw pos (keywordEach kws X.env)).any (·.1.isNone)) = false := by rfl) :
    SE cls own X (.Call (.Name x p) (e :: es) kws pos) (eCallL L fn sp dds fs fk) := by
  refine ⟨fun pins s σ H Q I h => ?_⟩
  have h := callL_core L (np := ps.length) hnp hdd hl1 hl2 h
  refine wpAny_Call_Name_kw (ld_glob I hg F.gl ?_ hdb)
  refine PySem.W.callWith_KW (h₀ := X.base) I.ok.mod.kin F.kp hall (thn (ha.run pos pins s σ H _ I h) fun us s1 ⟨vs, H1, I1, r, q⟩ => ?_) hpl he
  refine thn (hkw.run pos pins s1 σ H1 _ I1 q) fun ws s2 ⟨zs, H2, I2, rz, l1, l2, q2⟩ => ⟨I2.kIn, ?_⟩
  rw [hks]
  exact runG F.ok (hr.mono hjk) gd hb I2 r rz l1 l2 q2
end
end MI
namespace MI
open PySem PySem.Spec L2
section
variable {P : Program} {w : World} {A : Around} {E : Value -> Shared -> Prop} {s : Shared} {a : Addr}
theorem le_int {x y : Int} : PySem.W.dataLe false PyData.int x y = !decide (y < x) := by
  show (!PyProof.Rows.lexLt PyProof.Rows.itemOrd (PySem.W.keyToks (.int y)) (PySem.W.keyToks (.int x))) = _
  rw [PySem.W.keyToks, PySem.W.keyToks]
  show (!(decide (y < x) || (!decide (x < y) && false))) = _
  simp
theorem sort_lt {ns : List Int} (h : ns.Nodup) : (ns.mergeSort (PySem.W.dataLe false PyData.int)).Pairwise (· < ·) := by
  have h1 : (ns.mergeSort (PySem.W.dataLe false PyData.int)).Pairwise (fun a b => PySem.W.dataLe false PyData.int a b = true) :=
    List.pairwise_mergeSort (fun a b c h1 h2 => (PySem.W.sortLe_total _ false _).trans a b c h1 h2) (fun a b => by rw [Bool.or_eq_true]; exact (PySem.W.sortLe_total _ false _).total a b) ns
  have h2 : (ns.mergeSort (PySem.W.dataLe false PyData.int)).Pairwise (fun a b => a ≠ b) := (List.mergeSort_perm ns _).nodup_iff.mpr h
  refine (h1.and h2).imp ?_
  rintro x y ⟨h3, h4⟩
  rw [le_int] at h3
  have : ¬ y < x := by simpa using h3
  omega
theorem sorted_setI {S : Int -> Bool} {n : Nat} {Q : Value -> Shared -> Prop} (R : SetR w s.heap a S n) (hh : A.handled = none) (hu : A.units + 65 < cLine) (hn5 : n <= 100000)
    (hQ : ∀ s' p (out : Array Value) (c : Nat) (ns : List Int), (∀ b o, s.heap.get? b = some o -> s'.heap.get? b = some o) -> s'.gens = s.gens -> s'.os = s.os -> s.heap.objs.size <= p ->
      s'.heap.get? p = some (PyProof.Rows.seqObj "list" out c) -> PyProof.Rows.IntsAre out.toList ns -> ns.Pairwise (· < ·) -> (∀ k, k ∈ ns ↔ S k = true) -> ns.length = n -> Q (.ref p) s') :
    wpAny (model P w) A (call (.builtin "sorted") [.ref a]) Q E s := by
  obtain ⟨o, es, ep, t, ho, hex, hd, g, nd, hm, hb, hf, hn, hr, hl⟩ := R
  refine PySem.Calls.call_function_entry PyProof.Rows.kind_sorted PyProof.Rows.plain_sorted PyProof.Rows.entry_sorted (PyProof.Rows.args_sorted1 _) ?_
  unfold Builtin.«sorted»
  refine wpAny_bind (m := checkCount "sorted" 1 1 _) (wpAny_pure ?_)
  refine wpAny_bind (collect_set (A := A.in1) hh ⟨o, ho, hex.1, hd⟩ hf hb hr hl fun s1 vs k1 hz g1 o1 pm => ?_)
  have hvl : vs.length = n := by rw [pm.length_eq, List.length_map, Array.length_toList]; exact hn
  have hv : ∀ v ∈ vs, ∃ k tk, v = Value.int k tk := fun v hv => by
    obtain ⟨e, he, q⟩ := List.mem_map.mp (pm.mem_iff.mp hv)
    obtain ⟨k, tk, h1, _⟩ := g e he
    exact ⟨k, tk, by rw [<- q]; exact h1⟩
  have pk : (vs.map Builtin.Re.reRawOf).Perm (es.toList.map keyOf) := by
    have q := pm.map Builtin.Re.reRawOf
    rw [List.map_map] at q
    exact q
  have each : ∀ (vs : List Value), (∀ v ∈ vs, ∃ k tk, v = Value.int k tk) -> PySem.W.EachIs (fun v k => ∃ tk, v = Value.int k tk) vs (vs.map Builtin.Re.reRawOf) := by
    intro vs
    induction vs with
    | nil => intro _; exact .nil
    | cons v vs ih =>
      intro h
      obtain ⟨k, tk, rfl⟩ := h v (List.mem_cons_self ..)
      exact .cons ⟨tk, rfl⟩ (ih fun u hu => h u (List.mem_cons_of_mem _ hu))
  have e := each vs hv
  have er : ∀ h : Heap, PySem.W.EachIs (fun v k => ∃ as, Reads h v (PyData.int k) as) vs (vs.map Builtin.Re.reRawOf) := fun h => e.mono fun v k ⟨tk, q⟩ => ⟨[], by rw [q]; exact .int k tk⟩
  have hal : PySem.W.AllAlike ((vs.map Builtin.Re.reRawOf).map PyData.int) := by
    intro d1 h1 d2 h2
    obtain ⟨x, _, rfl⟩ := List.mem_map.mp h1
    obtain ⟨y, _, rfl⟩ := List.mem_map.mp h2
    rw [PySem.W.alike]
  have hL : vs.length <= sizeLine := by rw [hvl, sizeLine_eq]; omega
  refine wpAny_bind (wpAny_newList ?_ hL)
  have hob : (s1.heap.push { cls := .type "list", data := .seq vs.toArray }).get? s1.heap.objs.size = some (PyProof.Rows.seqObj "list" vs.toArray 0) := Heap.get?_push_size _ rfl
  have S1 : PySem.W.SortsAt P w A.in1.in1 { s1 with heap := PySem.W.sortingHeap (s1.heap.push { cls := .type "list", data := .seq vs.toArray }) s1.heap.objs.size vs } (PySem.W.dataKind (PySem.W.sortingHeap (s1.heap.push { cls := .type "list", data := .seq vs.toArray }) s1.heap.objs.size vs) ((vs.map Builtin.Re.reRawOf).map PyData.int)) vs := by
    refine PySem.W.SortsAt.data (PySem.W.each_map (R := fun v d => ∃ as, Reads _ v d as) PyData.int (er _)) hal (.inr fun d hd => ?_) fun d hd => ?_
    · obtain ⟨x, _, rfl⟩ := List.mem_map.mp hd
      exact ⟨(fun z => nomatch z), fun xs z => nomatch z⟩
    · obtain ⟨x, _, rfl⟩ := List.mem_map.mp hd
      rw [PyData.depth]
      show A.units + 2 + 0 < cLine
      omega
  refine wpAny_bind (wpAny_holding (wpAny_call_entry PyProof.Rows.slot_list_sort ⟨_, hob, rfl⟩ PyProof.Rows.entry_list_sort ?_ (PyProof.Rows.args_list_sort _)))
  show wpAny (model P w) A.in1.in1 (Builtin.«list.sort» ⟨[.ref s1.heap.objs.size], []⟩) _ _ { s1 with heap := s1.heap.push { cls := .type "list", data := .seq vs.toArray } }
  refine PySem.W.list_sort_vals (s := { s1 with heap := s1.heap.push { cls := .type "list", data := .seq vs.toArray } }) hob S1 hL ⟨_, rfl, wpAny_pure ⟨_, rfl, ?_⟩⟩
  obtain ⟨c, hc⟩ := PyProof.Rows.sortedHeap_at (vs := vs) (out := (PySem.W.sortVals (PySem.W.dataKind (PySem.W.sortingHeap (s1.heap.push { cls := .type "list", data := .seq vs.toArray }) s1.heap.objs.size vs) ((vs.map Builtin.Re.reRawOf).map PyData.int)) false vs vs).toArray) hob
  have so := PySem.W.sortVals_data (R := fun v k => ∃ tk, v = Value.int k tk) (enc := PyData.int) false e (er (PySem.W.sortingHeap (s1.heap.push { cls := .type "list", data := .seq vs.toArray }) s1.heap.objs.size vs)) hal
  have toI : ∀ {us : List Value} {ks : List Int}, PySem.W.EachIs (fun v k => ∃ tk, v = Value.int k tk) us ks -> PyProof.Rows.IntsAre us ks := by
    intro us ks h
    induction h with
    | nil => exact .nil
    | cons h _ ih => obtain ⟨tk, rfl⟩ := h; exact .cons _ _ ih
  have pn : ((vs.map Builtin.Re.reRawOf).mergeSort (PySem.W.dataLe false PyData.int)).Perm (es.toList.map keyOf) := (List.mergeSort_perm _ _).trans pk
  refine hQ _ s1.heap.objs.size _ c _ (fun b u e => ?_) g1 o1 hz hc (by simpa using toI so) (sort_lt (pk.nodup_iff.mpr nd)) (fun k => by rw [pn.mem_iff, <- hm k]) ?_
  · have q := k1 b u e
    have hlt := Heap.lt_size q
    show (PyProof.Rows.sortedHeap _ s1.heap.objs.size vs _).get? b = some u
    rw [PyProof.Rows.sortedHeap_old (Nat.ne_of_lt hlt) (Heap.lt_size (Heap.get?_push_of_some _ q))]
    exact Heap.get?_push_of_some _ q
  · rw [pn.length_eq, List.length_map, Array.length_toList]; exact hn
end
section
variable {X : Cx}
def rSortSetB (w : World) : List V -> Hp -> VK -> Prop := fun vs H Q => ∃ (a : Addr) (S : Int -> Bool) (n : Nat), vs = [V.ref a] /\ H a = some (SetO w a S n) /\ n <= 100000 /\
  ∀ (ns : List Int) (p : Addr), ns.Pairwise (· < ·) -> (∀ k : Int, k ∈ ns ↔ S k = true) -> ns.length = n -> H p = none -> Q (.ref p) (upd H p (.lst (ns.map V.int)))
theorem cr_sortSetB (hc : X.calm = true) (hu : X.A.units + 65 < cLine) : CallR X (.builtin "sorted") (rSortSetB X.w) := by
  intro pins s σ H vs us Q I r h
  obtain ⟨a, S, n, rfl, ha, h64, q⟩ := h
  have R := setO_get I ha
  rw [Vals.ref1 r]
  refine sorted_setI R (I.ok.hd hc) hu h64 fun s' p out c ns k g o hp hg hi hs hm hl => ?_
  have hlen : (ns.map V.int).length <= sizeLine := by rw [List.length_map, hl, sizeLine_eq]; omega
  have hn : H p = none := I.hok.fresh hp
  have J : Inv X pins σ (upd H p (.lst (ns.map V.int))) { s with heap := s'.heap, gens := s'.gens, drawn := s'.drawn, toks := s'.toks } :=
    I.call (ch := []) (Un.laid k hp hn) (I.hok.laid k hp ⟨hlen, out.toList, c, vals_of_ints hi, hg⟩) (by rw [g]; exact I.bare) (fun _ z => nomatch z)
  have e : s' = { s with heap := s'.heap, gens := s'.gens, drawn := s'.drawn, toks := s'.toks } := by
    cases s'; cases s; cases o; rfl
  rw [e]
  exact ⟨.ref p, _, J, rfl, q ns p hs hm hl hn⟩
end
def gSortSetB : D -> Option D
  | .lst ds => match ints? ds with
    | some ns => if ns.length < 1000 then some (.lst ((srtU ns).map .int)) else none
    | none => none
  | _ => none
def eSortSetB (fa : Den Hd) : Den D := eUn gSortSetB fa
theorem srtU_len (ns : List Int) : (srtU ns).length <= ns.length := by
  refine nodup_le (List.Pairwise.imp (fun {a b : Int} (h : a < b) => by omega) (srtU_lt ns)) fun x hx => srtU_mem.mp hx
section
variable {cls : Nat -> Addr} {own : Nat -> Bool} {X : Cx} {a : Expr} {fa : Den Hd} {p1 p2 p3 p4 : Pos}
theorem sf_sortSetB (hu : X.A.units + 65 < cLine) (hc : X.calm = true) (hg1 : Gl X "sorted") (hm1 : X.mg "sorted" = none) (hg2 : Gl X "set") (hm2 : X.mg "set" = none) (ha : SH cls own X a fa)
    (s1 : starEach [a] X.env = (false, eval a X.env) :: starEach [] X.env := by rfl) (s2 : starEach [.Call (.Name "set" p2) [a] [] p3] X.env = (false, eval (.Call (.Name "set" p2) [a] [] p3) X.env) :: starEach [] X.env := by rfl)
    (q1 : (backTo p4 (starEach [] X.env)).any (·.1) = false := by rfl) (q2 : (backTo p3 (starEach [] X.env)).any (·.1) = false := by rfl) :
    SF cls own X (.Call (.Name "sorted" p1) [.Call (.Name "set" p2) [a] [] p3] [] p4) (eSortSetB fa) := by
  refine pe_imp (pe_callB (cr_sortSetB hc hu) hg1 hm1 bt_sorted (pa_cons (pe_callTy (cr_setL hc) hg2 hm2 bt_set (pa_cons ha pa_nil s1) (by decide) (by decide) s1 q2) pa_nil s2) (by decide) (by decide) s2 q1) fun σ H Q q => ?_
  obtain ⟨G, al, m, d, m', r, e, k⟩ := q
  obtain ⟨h1, x, e1, l1, gz⟩ := eUn_ok e
  refine ⟨G, al, m, h1, m', r, e1, fun G1 al1 v H1 ev1 r1 hv1 => ?_⟩
  have cr := look_cr r1 hv1 l1
  unfold gSortSetB at gz
  split at gz
  · next ds =>
    split at gz
    · next ns q1 =>
      split at gz
      · next hf =>
        cases gz
        obtain ⟨p, xs, rfl, h2, c2⟩ := cr
        cases c2.ints q1
        refine ⟨p, ns, rfl, .inl (.inl h2), hf, fun q hq => ?_⟩
        refine ⟨q, _, _, rfl, upd_same, by have := srtU_len ns; omega, fun out p2 hlt hm hl hp => ?_⟩
        have eo : out = srtU ns := lt_uniq hlt (srtU_lt ns) fun z => by rw [hm, srtU_mem]; simp
        subst eo
        have k' : PostF (K := X.kx) (cls := cls) (own := own) (G := G1) (al := al1) (m := m') (σ := σ) (.lst ((srtU ns).map .int)) Q := fun G3 al3 w ob H3 ev3 r3 hp hn c => k G3 al3 w ob H3 (ev1.trans ev3) r3 hp hn c
        exact k'.lst (r1.fresh hq) (dvs_of_ints _) hp
      · cases gz
    · cases gz
  · cases gz
end
end MI
namespace MI
open PySem PySem.Spec L2
theorem df_ok {P : Program} {w : World} {K : PySem.W.Frag} {l : List ((PySem.W.Frag -> Addr) × D)} (c : dfB l K = true) (i : Nat) {p : PySem.W.Frag -> Addr} {d : D} (hq : l[i]? = some (p, d) := by rfl) : DV ⟨K, P, w⟩ (fun _ => none) [] (.ref (p K)) d := by
  have := List.all_eq_true.mp c _ (List.mem_of_getElem? hq)
  obtain ⟨v, r1, r2⟩ := datB_ok (P := P) (w := w) 8 _ _ this
  cases v with
  | ref a =>
    have : Value.ref (p K) = Value.ref a := r1
    cases this
    exact r2
  | _ => first | (obtain ⟨t, e⟩ := r1; cases e) | (cases r1)
def minI : List Int -> Int
  | [] => 0
  | [x] => x
  | x :: y :: r => if x <= minI (y :: r) then x else minI (y :: r)
def maxI : List Int -> Int
  | [] => 0
  | [x] => x
  | x :: y :: r => if maxI (y :: r) <= x then x else maxI (y :: r)
theorem minI_ok : ∀ {l : List Int}, l ≠ [] -> minI l ∈ l /\ ∀ y ∈ l, minI l <= y
  | [], h => absurd rfl h
  | [x], _ => by simp [minI]
  | x :: y :: r, _ => by
    obtain ⟨h1, h2⟩ := minI_ok (l := y :: r) (by simp)
    rw [minI]
    split
    · next h =>
      refine ⟨List.mem_cons_self .., fun z hz => ?_⟩
      rcases List.mem_cons.mp hz with rfl | hz
      · exact Int.le_refl _
      · exact Int.le_trans h (h2 z hz)
    · next h =>
      refine ⟨List.mem_cons_of_mem _ h1, fun z hz => ?_⟩
      rcases List.mem_cons.mp hz with rfl | hz
      · omega
      · exact h2 z hz
theorem maxI_ok : ∀ {l : List Int}, l ≠ [] -> maxI l ∈ l /\ ∀ y ∈ l, y <= maxI l
  | [], h => absurd rfl h
  | [x], _ => by simp [maxI]
  | x :: y :: r, _ => by
    obtain ⟨h1, h2⟩ := maxI_ok (l := y :: r) (by simp)
    rw [maxI]
    split
    · next h =>
      refine ⟨List.mem_cons_self .., fun z hz => ?_⟩
      rcases List.mem_cons.mp hz with rfl | hz
      · exact Int.le_refl _
      · exact Int.le_trans (h2 z hz) h
    · next h =>
      refine ⟨List.mem_cons_of_mem _ h1, fun z hz => ?_⟩
      rcases List.mem_cons.mp hz with rfl | hz
      · omega
      · exact h2 z hz
def gMinL : List D -> Option D
  | [.lst ds] => match ints? ds with
    | some (n :: ns) => some (.int (minI (n :: ns)))
    | _ => none
  | _ => none
def gMaxL : List D -> Option D
  | [.lst ds] => match ints? ds with
    | some (n :: ns) => some (.int (maxI (n :: ns)))
    | _ => none
  | _ => none
section
variable {cls : Nat -> Addr} {own : Nat -> Bool} {K : KX}
theorem ok_minL : FnOkD K cls own (rMin K.K) gMinL := by
  intro G al m σ H xs da d Q r hx e k
  unfold gMinL at e
  split at e
  · next ds =>
    split at e
    · next n ns q =>
      cases e
      obtain ⟨x, rfl, a, us, rfl, h1, r1⟩ := hx.one
      cases r1.ints q
      refine ⟨a, n :: ns, rfl, .inl (.inl h1), by simp, fun mm h2 h3 => ?_⟩
      obtain ⟨h4, h5⟩ := minI_ok (l := n :: ns) (by simp)
      have : mm = minI (n :: ns) := Int.le_antisymm (h3 _ h4) (h5 _ h2)
      subst this
      exact k.keep r (.int _)
    · cases e
  · cases e
theorem ok_maxL : FnOkD K cls own (rMax K.K) gMaxL := by
  intro G al m σ H xs da d Q r hx e k
  unfold gMaxL at e
  split at e
  · next ds =>
    split at e
    · next n ns q =>
      cases e
      obtain ⟨x, rfl, a, us, rfl, h1, r1⟩ := hx.one
      cases r1.ints q
      refine ⟨a, n :: ns, rfl, .inl (.inl h1), by simp, fun mm h2 h3 => ?_⟩
      obtain ⟨h4, h5⟩ := maxI_ok (l := n :: ns) (by simp)
      have : mm = maxI (n :: ns) := Int.le_antisymm (h5 _ h2) (h3 _ h4)
      subst this
      exact k.keep r (.int _)
    · cases e
  · cases e
end
section
variable {cls : Nat -> Addr} {own : Nat -> Bool} {K : KX}
theorem kv_dv {Z : Hp} {al : List Addr} : ∀ (kvs : List (Key × V)), DVs K Z al (kvs.map fun kv => kV kv.1) (kvs.map fun q => kD q.1)
  | [] => .nil
  | ((.inl i), v) :: r => .cons (.int i) (kv_dv r)
  | ((.inr x), v) :: r => .cons (.str x) (kv_dv r)
end
end MI
namespace MI
open PySem PySem.Spec L2
section
variable {m : MS} {Q : D -> MS -> Prop} {QF : Fl -> MS -> Prop} {c : Nat} {f nm : Str} {fo fv : Den D}
theorem w_fld (h : W fo m fun o m1 => ∃ n fs d, insAt c o m1 = some (n, fs) /\ fs.lookup f = some d /\ Q d m1) : W (eFld c fo f) m Q := by
  refine w_bind (h.mono fun o m1 ⟨n, fs, d, e1, e2, q⟩ => ⟨d, m1, ?_, q⟩)
  simp only [e1, e2]
theorem w_fldS (h : W fv m fun v m1 => W fo m1 fun o m2 => ∃ n fs, insAt c o m2 = some (n, fs) /\ fs.length < 1000 /\ QF .nx ⟨m2.sl, m2.st.set n (.ins c (putD f v fs))⟩) : W (sFldS c fo f fv) m QF := by
  refine w_bind (h.mono fun v m1 q => w_bind (q.mono fun o m2 ⟨n, fs, e1, e2, q⟩ => ⟨.nx, _, ?_, q⟩))
  simp only [e1, e2, if_true]
theorem w_shareD {f : Den D} (h : W f m fun d m1 => ∃ ds, d = .dic ds /\ Q (.obj m1.st.length) ⟨m1.sl, m1.st ++ [.dic ds]⟩) : W (eShareD f) m Q := by
  refine w_bind (h.mono fun d m1 ⟨ds, e, q⟩ => ?_)
  subst e
  exact ⟨_, _, rfl, q⟩
theorem w_putD {fk : Den Hd} (h : W fv m fun v m1 => W fo m1 fun o m2 => W fk m2 fun hk m3 => ∃ n ds k ds', o = .obj n /\ m3.st[n]? = some (.dic ds) /\ look hk m3 = some k /\ gSet (.dic ds) k v = some (.dic ds') /\ QF .nx ⟨m3.sl, m3.st.set n (.dic ds')⟩) : W (sPutD fo fk fv) m QF := by
  refine w_bind (h.mono fun v m1 q => w_bind (q.mono fun o m2 q => w_bind (q.mono fun hk m3 ⟨n, ds, k, ds', e0, e1, e2, e3, q⟩ => ⟨.nx, _, ?_, q⟩)))
  subst e0
  simp only [e1, e2, e3]
theorem w_mutO {g : List D -> List D -> Option (D × List D)} {fa : Den (List D)} (h : W fo m fun o m0 => ∃ n ds0, o = .obj n /\ m0.st[n]? = some (.lst ds0) /\ W fa m0 fun xs m1 => ∃ ds z ds', m1.st[n]? = some (.lst ds) /\ g ds xs = some (z, ds') /\ Q z ⟨m1.sl, m1.st.set n (.lst ds')⟩) : W (eMutO g fo fa) m Q := by
  refine w_bind (h.mono fun o m0 ⟨n, ds0, e0, e1, hf⟩ => ?_)
  obtain ⟨xs, m1, e2, ds, z, ds', e3, e4, q⟩ := hf.ex
  subst e0
  refine ⟨z, _, ?_, q⟩
  simp only [e1, e2, e3, e4]
theorem w_meth {fn : Fn} {sp : List Src} {dd : List D} {fs fk : Den (List D)} (h : W fo m fun o m0 => ∃ n fl, insAt c o m0 = some (n, fl) /\ (fl.lookup nm).isNone = true /\ W fs m0 fun ds m1 => W fk m1 fun es m2 => FS fn (arr sp (o :: ds) dd es) m2.st fun d st => Q d ⟨m2.sl, st⟩) : W (eMeth c nm fn sp dd fo fs fk) m Q := by
  refine w_bind (h.mono fun o m0 ⟨n, fl, e1, e2, hf⟩ => ?_)
  obtain ⟨ds, m1, e3, hf⟩ := hf.ex
  obtain ⟨es, m2, e4, hf⟩ := hf.ex
  obtain ⟨d, st, e5, q⟩ := hf.ex
  refine ⟨d, _, ?_, q⟩
  simp only [e1, e2, if_true, Den.bind, e3, e4, e5]
theorem w_make {fn : Fn} {sp : List Src} {dd : List D} {fs fk : Den (List D)} (h : W fs m fun ds m1 => W fk m1 fun es m2 => FS fn (arr sp (.obj m2.st.length :: ds) dd es) (m2.st ++ [.ins c []]) fun d st => d = .non /\ Q (.obj m2.st.length) ⟨m2.sl, st⟩) : W (eMake c fn sp dd fs fk) m Q := by
  refine w_bind (h.mono fun ds m1 q => w_bind (q.mono fun es m2 hf => ?_))
  obtain ⟨d, st, e5, rfl, q⟩ := hf.ex
  refine ⟨_, _, ?_, q⟩
  simp only [e5]
theorem w_callL {L : List Nat} {fn : Fn} {sp : List Src} {dd : List D} {fs fk : Den (List Hd)} (h : W fs m fun hs m1 => W fk m1 fun gs m2 => ∃ ds es, lendV L hs m2 = some ds /\ lendV L gs m2 = some es /\ FS fn (arr sp ds dd es) m2.st fun d st => flat d = true /\ st.all flatO = true /\ Q d ⟨m2.sl, st⟩) : W (eCallL L fn sp dd fs fk) m Q := by
  refine w_bind (h.mono fun hs m1 q => w_bind (q.mono fun gs m2 ⟨ds, es, e1, e2, hf⟩ => ?_))
  obtain ⟨d, st, e3, f1, f2, q⟩ := hf.ex
  refine ⟨d, _, ?_, q⟩
  simp only [e1, e2, e3, f1, f2, Bool.and_self, if_true]
theorem w_asgL {tgs : List Tg} {f : Den D} (h : W f m fun d m1 => ∃ ds sl, d = .lst ds /\ tgSets tgs ds m1.sl = some sl /\ QF .nx ⟨sl, m1.st⟩) : W (sAsgL tgs f) m QF := by
  refine w_bind (h.mono fun d m1 ⟨ds, sl, e, e2, q⟩ => ⟨.nx, _, ?_, q⟩)
  subst e
  simp only [e2]
theorem lv0 : looksV [] = some [] := rfl
theorem lv1 {a : D} : looksV [.val a] = some [a] := rfl
theorem lv2 {a b : D} : looksV [.val a, .val b] = some [a, b] := rfl
theorem lv3 {a b c : D} : looksV [.val a, .val b, .val c] = some [a, b, c] := rfl
theorem lv4 {a b c d : D} : looksV [.val a, .val b, .val c, .val d] = some [a, b, c, d] := rfl
theorem lv5 {a b c d e : D} : looksV [.val a, .val b, .val c, .val d, .val e] = some [a, b, c, d, e] := rfl
end
def HF (st : Sto) (n N : Nat) : Prop := HB st n N /\ st.all flatO = true
theorem HF.mono {st : Sto} {n N N' : Nat} (h : HF st n N) (hN : N <= N') : HF st n N' := ⟨h.1.mono hN, h.2⟩
theorem all_set {st : Sto} {n : Nat} {ob : O} (h : st.all flatO = true) (ho : flatO ob = true) : (st.set n ob).all flatO = true := by
  rw [List.all_eq_true] at h ⊢
  intro x hx
  rcases List.mem_or_eq_of_mem_set hx with z | z
  · exact h x z
  · rw [z]; exact ho
theorem all_app {st : Sto} {ob : O} (h : st.all flatO = true) (ho : flatO ob = true) : (st ++ [ob]).all flatO = true := by
  rw [List.all_append, h]
  simp [ho]
theorem takeF {st : Sto} {n N : Nat} {many : Int} (h : HF st n N) (hN : N < 2 ^ 40) (h0 : 0 < many) (h1 : many < 2 ^ 40) : ∃ r st', fTake [.obj n, .int many] st = some (.int r, st') /\ 0 <= r /\ r < many /\ HF st' n (N + 1) := by
  obtain ⟨⟨g, c, t, H, ht⟩, hf⟩ := h
  have b40 : (2 : Int) ^ 40 = 1099511627776 := by decide
  have c40 : (2 : Nat) ^ 40 = 1099511627776 := by decide
  have b64 : (2 : Int) ^ 64 = 18446744073709551616 := by decide
  obtain ⟨r, g', t', e, r0, r1, ht', H'⟩ := take_ok H (by rw [b64]; rw [c40] at hN; omega) h0 (by rw [b64]; rw [b40] at h1; omega)
  exact ⟨r, _, e, r0, r1, ⟨g', c, t', H', by push_cast; omega⟩, all_set hf (by simp [flatO, flats, flat])⟩
theorem pickFL {st : Sto} {n N : Nat} {ds : List D} (h : HF st n N) (hN : N < 2 ^ 40) (h0 : 0 < ds.length) (h1 : ds.length <= 1000) : ∃ d st', fPick [.obj n, .lst ds] st = some (d, st') /\ d ∈ ds /\ HF st' n (N + 1) := by
  have b40 : (2 : Int) ^ 40 = 1099511627776 := by decide
  obtain ⟨r, st1, e1, r0, r1, H1⟩ := takeF (many := (ds.length : Int)) h hN (by omega) (by rw [b40]; omega)
  have ix := MI.ix_lst (ds := ds) r0 r1
  refine ⟨ds[r.toNat]'(by omega), st1, ?_, List.getElem_mem _, H1⟩
  unfold fPick dPick
  generalize fTake = T at e1
  simp [arr, gLen, e1, ix]
theorem pickFT {st : Sto} {n N : Nat} {ds : List D} (h : HF st n N) (hN : N < 2 ^ 40) (h0 : 0 < ds.length) (h1 : ds.length <= 1000) : ∃ d st', fPick [.obj n, .tup ds] st = some (d, st') /\ d ∈ ds /\ HF st' n (N + 1) := by
  have b40 : (2 : Int) ^ 40 = 1099511627776 := by decide
  obtain ⟨r, st1, e1, r0, r1, H1⟩ := takeF (many := (ds.length : Int)) h hN (by omega) (by rw [b40]; omega)
  have ix := MI.ix_tup (ds := ds) r0 r1
  refine ⟨ds[r.toNat]'(by omega), st1, ?_, List.getElem_mem _, H1⟩
  unfold fPick dPick
  generalize fTake = T at e1
  simp [arr, gLen, e1, ix]
theorem handF {st : Sto} {ns : List Int} {k : Int} (hs : st.all flatO = true) (h0 : 0 <= k) (h1 : k < 100) : ∃ n st', runFn 4 dHand [.scr ns, .int k] st = some (.obj n, st') /\ HF st' n 0 := by
  obtain ⟨g, c, e, H⟩ := hand_ok (st := st) (ns := ns) h0 h1
  exact ⟨_, _, e, ⟨g, c, 0, H, by simp⟩, all_app hs (by simp [flatO, flats, flat])⟩
end MI
namespace MI
open PySem PySem.Spec L2
def rReprE : List V -> Hp -> VK -> Prop := fun xs H Q => ∃ a, xs = [.ref a] /\ Rd H a (.dK []) /\ Q (.str (PyData.dict []).shown) H
section
variable {X : Cx}
theorem cr_reprE (gd : X.A.guards = some []) (hu : X.A.units + 65 < cLine) : CallR X (.builtin "repr") rReprE := by
  intro pins s σ H xs us Q I r h
  obtain ⟨a, rfl, ha, q⟩ := h
  rw [Vals.ref1 r]
  obtain ⟨_, hm, vs, kv, o, es, ep, h1, h2, h3, h4, h5, h6⟩ := Rd.ok ha I.hok
  have hv : vs = [] := by
    have := kv.length
    exact List.length_eq_zero_iff.mp this.symm
  subst hv
  have he : es.toList = [] := by
    generalize es.toList = l at h5
    cases h5
    rfl
  have hdp : (PyData.dict []).depth <= 1 := by decide
  have rd : Reads s.heap (.ref a) (.dict []) (a :: ([] ++ [])) := .dict h1 h2.1 h3 (by rw [he]; exact .nil) (by rw [he]; exact .nil)
  refine repr_of_reads' rd (by decide) (fun _ z => ?_) gd (by omega) (fun _ _ z => z) (fun h' t tk hk => ⟨.str _, H, I.kept hk, ⟨t, rfl⟩, q⟩) (by rw [sizeLine_eq]; decide)
  rw [List.append_nil, List.mem_singleton] at z
  subst z
  simp at hm
theorem cr_reprA (gd : X.A.guards = some []) (hu : X.A.units + 65 < cLine) : CallR X (.builtin "repr") (cOr (rRepr X.K) rReprE) := callR_or (cr_repr gd hu) (cr_reprE gd hu)
end
def gReprA : List D -> Option D
  | [.dic []] => some (.str (PyData.dict []).shown)
  | xs => gRepr xs
section
variable {cls : Nat -> Addr} {own : Nat -> Bool} {K : KX}
theorem ok_reprA : FnOkD K cls own (cOr (rRepr K.K) rReprE) gReprA := by
  intro G al m σ H xs da d Q r hx e k
  unfold gReprA at e
  split at e
  · cases e
    obtain ⟨x, rfl, a, kvs, rfl, h1, h2, h3⟩ := hx.one
    have : kvs = [] := by
      have := congrArg List.length h2
      rw [List.length_map, List.length_map] at this
      exact List.length_eq_zero_iff.mp this.symm
    subst this
    exact .inr ⟨a, rfl, h1, k.keep r (.str _)⟩
  · exact .inl (ok_repr G al m σ H _ _ d Q r hx e k)
end
end MI
namespace MI
open PySem PySem.Spec L2
def eLast (i : Nat) : Den D := fun m => match m.sl[i]? with
  | some (some d) => .ok d { m with sl := m.sl.set i none }
  | _ => .bad
section
variable {cls : Nat -> Addr} {own : Nat -> Bool} {X : Cx} {a : Expr} {f : Den D} {pos : Pos} {i : Nat} {x : Str}
theorem se_last (hN : X.N[i]? = some x) (hv : Vis X.env.scope x) (ho : own i = true) (hd : (x == ("__debug__" : Str)) = false := by decide) (hcd : (x == ("__classdict__" : Str)) = false := by decide) : SE cls own X (.Name x pos) (eLast i) := by
  refine pe_imp (pe_var (pos := pos) hN hv hd hcd) fun σ H Q q => ?_
  obtain ⟨G, al, m, d, m', r, e, k⟩ := q
  unfold eLast at e
  split at e
  case h_2 => cases e
  next d0 e0 =>
  cases e
  obtain ⟨p, o, s1, g1, c1⟩ := r.own i _ e0 ho
  let own' : Nat -> Bool := fun j => if j = i then false else own j
  obtain ⟨G1, ev1, r1⟩ := r.freeze (own' := own') ho (by show (if i = i then false else own i) = false; rw [if_pos rfl]) (fun j hj => by show (if j = i then false else own j) = own j; rw [if_neg hj])
  obtain ⟨v, q1, q2⟩ := r1.val i d e0 (by show (if i = i then false else own i) = false; rw [if_pos rfl])
  rw [s1] at q1; cases q1
  exact ⟨.ref p, s1, k G1 al _ H ev1 (r1.thaw (fun j hj => by show (if j = i then false else own j) = own j; rw [if_neg hj])) q2⟩
end
end MI
namespace MI
open PySem PySem.Spec L2
end MI
namespace MI
open PySem PySem.Spec L2
inductive PN (K : KX) (H : Hp) : List (V × V) -> List (NestedKey × Addr × V) -> Prop
  | nil : PN K H [] []
  | cons {a : Addr} {k : NestedKey} {v : V} {ps : List (V × V)} {rs : List (NestedKey × Addr × V)} : KAt K.K H (.ref a) k -> k.depth <= 8 -> PN K H ps rs -> PN K H ((.ref a, v) :: ps) ((k, a, v) :: rs)
end MI
namespace MI
open PySem PySem.Spec L2
inductive PT2 (K : KX) (H : Hp) : List Addr -> List (NestedKey × Addr × V) -> Prop
  | nil : PT2 K H [] []
  | cons {p a : Addr} {k : NestedKey} {v : V} {ps : List Addr} {rs : List (NestedKey × Addr × V)} : SqT K.K H p [.ref a, v] -> KAt K.K H (.ref a) k -> k.depth <= 8 -> PT2 K H ps rs -> PT2 K H (p :: ps) ((k, a, v) :: rs)
end MI
namespace MI
open PySem PySem.Spec L2
end MI
namespace MI
open PySem PySem.Spec L2
abbrev TL := List (Addr × Obj × (Key × V))
end MI
namespace MI
open PySem PySem.Spec L2 PyProof.Rows
end MI
namespace MI
open PySem PySem.Spec L2 PyProof.Rows
end MI
namespace MI
open PySem PySem.Spec L2
section
variable {m : MS} {Q : D -> MS -> Prop} {QL : List D -> MS -> Prop} {QF : Fl -> MS -> Prop} {i : Nat} {d : D}
theorem w_last (e : m.sl[i]? = some (some d)) (q : Q d ⟨m.sl.set i none, m.st⟩) : W (eLast i) m Q := by
  refine ⟨d, _, ?_, q⟩
  unfold eLast
  rw [e]
end
end MI
namespace MI
open PySem PySem.Spec L2
end MI
namespace MI
open PySem PySem.Spec L2
end MI
namespace MI
open PySem PySem.Spec L2
end MI
namespace MI
open PySem PySem.Spec L2
end MI
namespace MI
open PySem PySem.Spec L2
end MI
namespace MI
open PySem PySem.Spec L2
abbrev Gd := D -> Den Unit
def tGd (K : KX) (cls : Nat -> Addr) (own : Nat -> Bool) (g : Gd) : TG := fun v σ H Q => ∃ G al m d u m', Rst K cls own G al m σ H /\ DV K (Zof G) al v d /\ g d m = .ok u m' /\
  ∀ G' al' σ' H', Ev G al G' al' -> Rst K cls own G' al' m' σ' H' -> Q σ' H'
def gdAll : List Gd -> List D -> Den Unit
  | [], [] => .ret ()
  | g :: gs, d :: ds => (g d).bind fun _ => gdAll gs ds
  | _, _ => fun _ => .bad
def tGds (K : KX) (cls : Nat -> Addr) (own : Nat -> Bool) (gs : List Gd) : TGs := fun vs σ H Q => ∃ G al m ds u m', Rst K cls own G al m σ H /\ DVs K (Zof G) al vs ds /\ gdAll gs ds m = .ok u m' /\
  ∀ G' al' σ' H', Ev G al G' al' -> Rst K cls own G' al' m' σ' H' -> Q σ' H'
def gdPut (i : Nat) (fk : Den Hd) : Gd := fun v => (sPut i fk (eC v)).bind fun _ => .ret ()
def sAsgs (gs : List Gd) (f : Den D) : Den Fl := f.bind fun d => fun m => match d with
  | .tup ds => match gdAll gs ds m with
    | .ok _ m' => .ok .nx m'
    | .bad => .bad
  | _ => .bad
section
variable {cls : Nat -> Addr} {own : Nat -> Bool} {X : Cx} {a b : Expr} {ps npos pos pt : Pos} {es ts : List Expr} {g : Gd} {gs : List Gd} {fk : Den Hd} {i n kt : Nat} {x : Str}
theorem sgd_put (hu : X.A.units + 65 < cLine) (hN : X.N[i]? = some x) (hvis : Vis X.env.scope x) (ho : own i = true) (hk : SH cls own X b fk)
    (hd : (x == ("__debug__" : Str)) = false := by decide) (hcd : (x == ("__classdict__" : Str)) = false := by decide)
    (ha : ∀ z, assign (.Subscript (.Name x npos) b ps) X.env z = (holding [z] (eval (.Name x npos) X.env) >>= fun o => holding [z, o] (eval b X.env) >>= fun j => standAt ps >>= fun _ => holding [z, o, j] (setItem o j z) >>= fun _ => release [z, o, j] []) := by intro _; rfl) :
    PG X (.Subscript (.Name x npos) b ps) (tGd X.kx cls own (gdPut i fk)) := by
  refine pg_imp (pg_sub (pe_var (pos := npos) hN hvis hd hcd) hk (set_A hu) ha) fun vv σ H Q q => ?_
  obtain ⟨G1, al1, m1, v, u, m', r1, dv, e, k⟩ := q
  obtain ⟨fl, m3, e, e9⟩ := bind_ok e
  cases e9
  obtain ⟨v', m1', e1, e⟩ := bind_ok e
  cases e1
  split at e
  case h_2 => cases e
  next d0 e0 =>
  split at e
  case h_2 => cases e
  next hk m2 e2 =>
  split at e
  case h_2 => cases e
  next d dk e3 e4 =>
  split at e
  case h_2 => cases e
  next d' e5 =>
  cases e
  obtain ⟨p, o0, s0, _, _⟩ := r1.own i _ e0 ho
  refine ⟨.ref p, s0, G1, al1, m1, hk, m2, r1, e2, fun G2 al2 y H2 ev2 r2 hy => ?_⟩
  obtain ⟨p', o, s1, g1, c1⟩ := r2.own i _ e3 ho
  rw [s0] at s1; cases s1
  refine ok_set r2 (r2.hst.gh _ _ _ g1) c1 (look_cr r2 hy e4) (dv.ev ev2) e5 fun o' c' => ?_
  obtain ⟨ev3, r3⟩ := r2.write e3 ho s0 g1 c'
  exact k _ al2 σ _ (ev2.trans ev3) r3
theorem sgds_nil : PGs X [] (tGds X.kx cls own []) := by
  refine pgs_imp pgs_nil fun v σ H Q q => ?_
  obtain ⟨G, al, m, ds, u, m', r, dv, e, k⟩ := q
  cases dv with
  | nil => cases e; exact ⟨rfl, k G al σ H .refl r⟩
  | cons _ _ => cases e
theorem sgds_cons (h : PG X a (tGd X.kx cls own g)) (hr : PGs X es (tGds X.kx cls own gs)) (hs : (assignEach (a :: es) X.env).map (·.2) = assign a X.env :: (assignEach es X.env).map (·.2) := by rfl) : PGs X (a :: es) (tGds X.kx cls own (g :: gs)) := by
  refine pgs_imp (pgs_cons h hr hs) fun v σ H Q q => ?_
  obtain ⟨G, al, m, ds, u, m', r, dv, e, k⟩ := q
  cases dv with
  | nil => cases e
  | cons d1 d2 =>
    rename_i v1 vs d ds
    obtain ⟨u1, m1, e1, e2⟩ := bind_ok (show ((g d).bind fun _ => gdAll gs ds) m = .ok u m' from e)
    refine ⟨v1, vs, rfl, G, al, m, d, u1, m1, r, d1, e1, fun G1 al1 σ1 H1 ev1 r1 => ?_⟩
    exact ⟨G1, al1, m1, ds, u, m', r1, d2.ev ev1, e2, fun G2 al2 σ2 H2 ev2 r2 => k G2 al2 σ2 H2 (ev1.trans ev2) r2⟩
theorem gdAll_len : ∀ {gs : List Gd} {ds : List D} {m m' : MS} {u : Unit}, gdAll gs ds m = .ok u m' -> ds.length = gs.length
  | [], [], _, _, _, _ => rfl
  | [], _ :: _, _, _, _, e => by cases e
  | _ :: _, [], _, _, _, e => by cases e
  | g :: gs, d :: ds, m, m', u, e => by
    obtain ⟨_, m1, _, e2⟩ := bind_ok (show ((g d).bind fun _ => gdAll gs ds) m = .ok u m' from e)
    rw [List.length_cons, List.length_cons, gdAll_len e2]
theorem ss_asgs {fe : Den D} (hc : X.calm = true) (he : SE cls own X a fe) (hg : PGs X ts (tGds X.kx cls own gs)) (hl : gs.length = n)
    (hs : swapsWithSole [.Tuple ts kt pt] a pos.line X.env = pure false := by rfl) (hw : swappedStores [.Tuple ts kt pt] a X.env = pure none := by rfl)
    (h1 : (assignEach [.Tuple ts kt pt] X.env).map (·.2) = [assign (.Tuple ts kt pt) X.env] := by rfl)
    (hnn : (assignEach ts X.env).length = n := by rfl) (hst : (assignEach ts X.env).findIdx? (·.1) = none := by rfl) :
    SS cls own X (.Assign [.Tuple ts kt pt] a pos) (sAsgs gs fe) := by
  refine ps_imp (ps_asg he (pg_tup hc hg hnn hst) hs hw h1) fun E σ H q => ?_
  obtain ⟨G, al, m, fl, m', r, e, k⟩ := q
  obtain ⟨d, m1, e1, e⟩ := bind_ok e
  split at e
  case h_2 => cases e
  next ds =>
  split at e
  case h_2 => cases e
  next u m2 e2 =>
  cases e
  refine ⟨G, al, m, _, m1, r, e1, fun G1 al1 v H1 ev1 r1 dv => ?_⟩
  cases dv with
  | tup h1 r2 => exact ⟨_, _, rfl, Same.tupS r1.zh h1, by rw [r2.length, gdAll_len e2, hl], G1, al1, m1, ds, u, _, r1, r2, e2, fun G2 al2 σ2 H2 ev2 r3 => k G2 al2 σ2 H2 (ev1.trans ev2) r3⟩
end
section
variable {m : MS} {QF : Fl -> MS -> Prop} {Q : Unit -> MS -> Prop} {gs : List Gd} {g : Gd} {i : Nat}
theorem w_asgs {f : Den D} (h : W f m fun d m1 => ∃ ds, d = .tup ds /\ W (gdAll gs ds) m1 fun _ m2 => QF .nx m2) : W (sAsgs gs f) m QF := by
  refine w_bind (h.mono fun d m1 ⟨ds, e, hq⟩ => ?_)
  obtain ⟨u, m2, e2, q⟩ := hq.ex
  subst e
  refine ⟨.nx, m2, ?_, q⟩
  simp only [e2]
theorem w_gnil (q : Q () m) : W (gdAll [] []) m Q := w_ret q
theorem w_gcons {d : D} {ds : List D} (h : W (g d) m fun _ m1 => W (gdAll gs ds) m1 Q) : W (gdAll (g :: gs) (d :: ds)) m Q := w_bind h
theorem w_gput {fk : Den Hd} {v d0 : D} (e0 : m.sl[i]? = some (some d0)) (h : W fk m fun hk m2 => ∃ d k d', m2.sl[i]? = some (some d) /\ look hk m2 = some k /\ gSet d k v = some d' /\ Q () ⟨m2.sl.set i (some d'), m2.st⟩) : W (gdPut i fk v) m Q :=
  w_bind (w_put (QF := fun _ m2 => W (Den.ret ()) m2 Q) (w_c ⟨d0, e0, h.mono fun hk m2 ⟨d, k, d', h1, h2, h3, q⟩ => ⟨d, k, d', h1, h2, h3, w_ret q⟩⟩))
end
end MI
namespace MI
open PySem PySem.Spec L2
theorem vals_by : ∀ {xs : List V} {us : List Value}, xs.length = us.length -> (∀ (i : Nat) (x : V) (u : Value), xs[i]? = some x -> us[i]? = some u -> RelV x u) -> Vals xs us
  | [], [], _, _ => .nil
  | [], _ :: _, h, _ => by cases h
  | _ :: _, [], h, _ => by cases h
  | x :: xs, u :: us, h, k => .cons (k 0 x u rfl rfl) (vals_by (by simpa using h) fun i y v e1 e2 => k (i + 1) y v (by simpa using e1) (by simpa using e2))
end MI
namespace MI
open PySem PySem.Spec L2
end MI
namespace MI
open PySem PySem.Spec L2
section
variable {prog : Program} {w : World} {A : Around} {E : Value -> Shared -> Prop} {s : Shared} {T : String} {r d : Addr} {n : Nat} {P : Nat -> Value -> Prop} {OK : Heap -> Prop}
theorem collect_src {Q : List Value -> Shared -> Prop} (C : PySem.W.KdlSrc prog w T r d n P OK) (calm : A.handled = none) (ok : OK s.heap) (few : n <= sizeLine)
    (q : ∀ (h2 : Heap) (tk : Nat) (got : Array Value), (∀ b o, s.heap.get? b = some o -> h2.get? b = some o) -> ItemsOf P got n -> Q got.toList { s with heap := h2, toks := tk }) :
    wpAny (model prog w) A (collect (.ref r)) Q E s := by
  have far := C.there _ ok
  unfold collect
  refine wpAny_bind (wpAny_runValue (codeAny_builtin PySem.F.entry_proto_collect ?_))
  rw [PySem.Around.under_plainId PySem.F.plain_proto_collect _]
  show wpAny _ (Around.in1 A) (newList [] >>= fun z => again (.builtin "list.__iadd__" ⟨[z, .ref r], []⟩)) _ _ s
  refine wpAny_bind (wpAny_newObj_type ?_)
  refine wpAny_pure ⟨plainId_quiet PySem.F.plain_list_iadd _, codeAny_builtin PySem.F.entry_list_iadd ?_⟩
  rw [PySem.Around.under_plainId PySem.F.plain_list_iadd _]
  show wpAny _ (Around.in1 A) (Builtin.List.listExtendWith (Value.ref s.heap.objs.size) (Value.ref r) (Value.ref s.heap.objs.size)) _ _ _
  have new0 : (s.heap.push { cls := .type "list", data := .seq ([] : List Value).toArray }).get? s.heap.objs.size = some { cls := .type "list", data := .seq #[] 0 } := Heap.get?_push_size _ rfl
  have ok2 : OK (s.heap.push { cls := .type "list", data := .seq ([] : List Value).toArray }) := C.keep _ _ ok fun b _ o e => Heap.get?_push_of_some _ e
  refine wpAny_mono (PySem.W.kdl_extend (A := A) (s := { s with heap := s.heap.push { cls := .type "list", data := .seq ([] : List Value).toArray } }) (R := fun res s3 => res = .ok (.ret (.ref s.heap.objs.size)) /\ ∃ (h2 : Heap) (tk : Nat) (got : Array Value) (c2 : Nat), s3 = { s with heap := h2, toks := tk } /\
      (∀ b o, s.heap.get? b = some o -> h2.get? b = some o) /\ h2.get? s.heap.objs.size = some { cls := .type "list", dict := none, data := .seq got c2, slots := #[] } /\ ItemsOf P got n) C calm ok2 s.heap.objs.size (Nat.ne_of_gt far.1) (Nat.ne_of_gt far.2) _ 0 new0
    (fun h2 tk got c2 kp e it => ⟨rfl, h2, tk, got, c2, rfl, fun b o z => kp b o (Nat.ne_of_lt (Heap.lt_size z)) (Heap.get?_push_of_some _ z), e, it⟩) few) (fun fin s3 z => ?_) fun e s3 z => absurd z.1 (by simp)
  cases fin with
  | done f =>
    obtain ⟨e, h2, tk, got, c2, rfl, kp, e2, it⟩ := z
    cases e
    exact wpAny_bind (wpAny_load e2 (wpAny_pure (q h2 tk got kp it)))
  | again c2 =>
    refine ⟨z.1, codeAny_mono z.2 fun res s4 y => ?_⟩
    obtain ⟨rfl, h2, tk, got, c3, rfl, kp, e2, it⟩ := y
    exact wpAny_bind (wpAny_load e2 (wpAny_pure (q h2 tk got kp it)))
theorem tuple_new_src {Q1 : Value -> Shared -> Prop} (C : PySem.W.KdlSrc prog w T r d n P OK) (calm : A.handled = none) (ok : OK s.heap) (few : n <= sizeLine) (nt : (Value.type T == Value.type "tuple") = false)
    (q : ∀ (h2 : Heap) (tk : Nat) (got : Array Value), (∀ b o, s.heap.get? b = some o -> h2.get? b = some o) -> ItemsOf P got n -> Q1 (.ref h2.objs.size) { s with heap := h2.push { cls := .type "tuple", data := .seq got }, toks := tk }) :
    codeAny (model prog w) A (.call (.builtin "tuple.__new__") ⟨[.type "tuple", .ref r], []⟩) (wants Q1 E) s := by
  refine codeAny_of_tree ?_
  show wpAny _ (Around.in1 A) (do checkBuiltinCall "tuple.__new__" ⟨[.type "tuple", Value.ref r], []⟩; again (.builtin "tuple.__new__" ⟨[.type "tuple", Value.ref r], []⟩)) _ _ s
  refine wpAny_bind (wpAny_of_eq (PySem.F.newCall_tuple_1 _) (wpAny_pure ⟨plainId_quiet PySem.F.plain_tuple_new _, codeAny_builtin PySem.F.entry_tuple_new ?_⟩))
  rw [PySem.Around.under_plainId PySem.F.plain_tuple_new _]
  have s1 := sub_tuple_self
  have s2 := init_tuple_lookup
  have s3 := madeHere_tuple
  have ty : s.TypeIs (.ref r) T := C.type _ ok
  have calm1 : A.in1.handled = none := calm
  wp_walk using wpAny_typeOf ty, collect_src (A := A.in1) C calm1 ok few
  intro h2 tk got kp it
  show wpAny _ _ (Builtin.Tuple.tupleExact got.toList.toArray >>= fun z => ret z) _ _ _
  unfold Builtin.Tuple.tupleExact
  refine wpAny_bind (wpAny_newObj_type ?_ (by show got.toList.toArray.size <= sizeLine; simp only [Array.toArray_toList]; rw [it.1]; exact few))
  refine wpAny_pure ?_
  have e : got.toList.toArray = got := by simp
  rw [e]
  exact q h2 tk got kp it
theorem call_tuple_src {Q : Value -> Shared -> Prop} (C : PySem.W.KdlSrc prog w T r d n P OK) (calm : A.handled = none) (ok : OK s.heap) (few : n <= sizeLine) (nt : (Value.type T == Value.type "tuple") = false)
    (q : ∀ (h2 : Heap) (tk : Nat) (got : Array Value), (∀ b o, s.heap.get? b = some o -> h2.get? b = some o) -> ItemsOf P got n -> Q (.ref h2.objs.size) { s with heap := h2.push { cls := .type "tuple", data := .seq got }, toks := tk }) :
    wpAny (model prog w) A (call (.type "tuple") [.ref r]) Q E s := by
  refine callType_codes (Q₁ := fun ob s₁ => s₁.TypeIs ob "tuple" /\ Q ob s₁) PySem.F.called_tuple (PySem.F.typeCall_tuple_1 _) PySem.F.entry_object_init
    (tuple_new_src (A := A.in1) C calm ok few nt fun h2 tk got kp it => ⟨⟨_, Heap.get?_push_size _ rfl, rfl⟩, q h2 tk got kp it⟩) fun ob s₁ z => ?_
  exact ⟨z.1, PySem.F.args_object_init_2 ob _, object_init_meets PySem.F.called_tuple.init.lookup PySem.F.called_tuple.made (by decide) prog w (Around.in1 A) _ s₁ ⟨z.1, rfl, z.2⟩⟩
end
def rTupK : List V -> Hp -> VK -> Prop := fun xs H Q => ∃ (a : Addr) (kvs : List (Key × V)), xs = [.ref a] /\ Rd H a (.dK kvs) /\ ∀ p ob, H p = none -> ob.dict = none -> Q (.ref p) (upd H p (.frz ob (.tup (kvs.map fun kv => kV kv.1))))
def rTupN (K : KX) : List V -> Hp -> VK -> Prop := fun xs H Q => ∃ (a : Addr) (o : Obj) (es : XS), xs = [.ref a] /\ H a = some (hoN a o) /\ RawN K a o es /\ ∀ p ob, H p = none -> ob.dict = none -> Q (.ref p) (upd H p (.frz ob (.tup (es.map fun x => V.ref x.2.1))))
section
variable {X : Cx}
theorem call_tupK (hcalm : X.calm = true) : CallR X (.type "tuple") rTupK := by
  intro pins s σ H xs us Q I r h
  obtain ⟨a, kvs, rfl, hd, q⟩ := h
  obtain ⟨u, rfl, rx⟩ := vals1 r
  cases rx
  obtain ⟨z, lo, vs, rel, dd⟩ := dk_rd I.hok hd
  obtain ⟨ep, hat⟩ := dd.dictAt
  have lz : vs.length = kvs.length := rel.length.symm
  have ek : (kvs.map fun kv => kV kv.1) = vs.map fun p => kV p.1 := by
    have := congrArg (List.map kV) rel.keys
    rw [List.map_map, List.map_map] at this
    exact this
  refine call_tuple_src (PySem.W.kdl_dict (knd := mixKind X.prog X.w) (kvs := vs) (ep := ep) lo) (I.ok.hd hcalm) hat (by omega) (by decide) fun h' tk acc kp hacc => ?_
  have hv : Vals (vs.map fun p => kV p.1) acc.toList := keys_at (by rw [Array.length_toList]; exact hacc.1) fun j v e => hacc.2 j v (by rw [<- Array.getElem?_toList]; exact e)
  have I1 : Inv X pins σ H { s with heap := h', toks := tk } := I.kept (t' := tk) kp
  have ea : acc.toList.toArray = acc := by simp
  refine ⟨.ref h'.objs.size, _, I1.laid (o := .frz (newT acc.toList) (.tup (kvs.map fun kv => kV kv.1))) (t' := tk) (fun b o e => Heap.get?_push_of_some _ e) (Nat.le_refl _) (newT_ok (by rw [List.length_map]; exact z) (by rw [ek]; exact hv) ?_), rfl, q _ _ (I1.hok.fresh (Nat.le_refl _)) rfl⟩
  have e2 : (h'.push ({ cls := .type "tuple", data := .seq acc } : Obj)).get? h'.objs.size = some ({ cls := .type "tuple", data := .seq acc } : Obj) := Heap.get?_push_size _ rfl
  have en : newT acc.toList = ({ cls := .type "tuple", data := .seq acc } : Obj) := by unfold newT; rw [ea]
  rw [en]
  exact e2
theorem call_tupN (hcalm : X.calm = true) : CallR X (.type "tuple") (rTupN X.kx) := by
  intro pins s σ H xs us Q I r h
  obtain ⟨a, o, ents, rfl, hd, raw, q⟩ := h
  obtain ⟨u, rfl, rx⟩ := vals1 r
  cases rx
  obtain ⟨es, ep, hod, hes⟩ := raw.ent
  have hl : es.size = ents.length := by rw [<- Array.length_toList, hes, List.length_map]
  have ho := (I.hok a _ hd).1
  have hr0 : s.heap.DictRaw a es ep := ⟨o, ho, raw.exact', hod⟩
  refine call_tuple_src (KdlSrc.rawDict (es := es) (ep := ep) raw.ns) (I.ok.hd hcalm) hr0 (by rw [hl]; exact raw.len) (by decide) fun h' tk acc kp hacc => ?_
  have ea : acc.toList.toArray = acc := by simp
  have hv : Vals (ents.map fun x => V.ref x.2.1) acc.toList := vals_by (by have := hacc.1; simp only [Array.length_toList, List.length_map]; omega) fun i x u h1 h2 => by
    obtain ⟨hi, e2⟩ := hacc.2 i u (by rw [<- Array.getElem?_toList]; exact h2)
    have h5 : es.toList[i]? = some es[i] := by rw [Array.getElem?_toList, Array.getElem?_eq_getElem hi]
    rw [hes, List.getElem?_map] at h5
    rw [List.getElem?_map] at h1
    cases z : ents[i]? with
    | none => rw [z] at h1; cases h1
    | some t =>
      rw [z] at h1 h5
      cases h1
      have h6 : entryOfKey (nestedKind X.prog X.w) t = es[i] := Option.some.inj h5
      rw [e2, <- h6]
      rfl
  have I1 : Inv X pins σ H { s with heap := h', toks := tk } := I.kept (t' := tk) kp
  refine ⟨.ref h'.objs.size, _, I1.laid (o := .frz (newT acc.toList) (.tup (ents.map fun x => V.ref x.2.1))) (t' := tk) (fun b o e => Heap.get?_push_of_some _ e) (Nat.le_refl _) (newT_ok (by rw [List.length_map]; exact raw.len) hv ?_), rfl, q _ _ (I1.hok.fresh (Nat.le_refl _)) rfl⟩
  have e2 : (h'.push ({ cls := .type "tuple", data := .seq acc } : Obj)).get? h'.objs.size = some ({ cls := .type "tuple", data := .seq acc } : Obj) := Heap.get?_push_size _ rfl
  have en : newT acc.toList = ({ cls := .type "tuple", data := .seq acc } : Obj) := by unfold newT; rw [ea]
  rw [en]
  exact e2
def rTupleA (K : KX) : List V -> Hp -> VK -> Prop := cOr (rTupleF K.K) (cOr rTupK (rTupN K))
theorem cr_tupleA (hc : X.calm = true) : CallR X (.type "tuple") (rTupleA X.kx) := callR_or cr_tupleF (callR_or (call_tupK hc) (call_tupN hc))
end
def gTupleA : List D -> Option D
  | [.dic ds] => some (.tup (ds.map Prod.fst))
  | [.dit ds] => some (.tup (ds.map Prod.fst))
  | [.lst ds] => some (.tup ds)
  | [.tup ds] => some (.tup ds)
  | _ => none
theorem ok_tupleA {K : KX} {cls : Nat -> Addr} {own : Nat -> Bool} : FnOkD K cls own (rTupleA K) gTupleA := by
  intro G al m σ H xs da d Q r hx e k
  unfold gTupleA at e
  split at e
  · next ds =>
    cases e
    obtain ⟨x, rfl, a, kvs, rfl, h1, h2, h3⟩ := hx.one
    refine .inr (.inl ⟨a, kvs, rfl, h1, fun p ob hp hdb => ?_⟩)
    rw [h2] at k
    exact k.tup r (kv_dv kvs) hp hdb
  · next ds =>
    cases e
    obtain ⟨x, rfl, a, o, es, vs, rfl, h1, h2, h3, h4, h5, h6⟩ := hx.one
    exact .inr (.inr ⟨a, o, es, rfl, h1, h2, fun p ob hp hdb => k.tup r h3 hp hdb⟩)
  · next ds =>
    cases e
    obtain ⟨x, rfl, a, us, rfl, h1, r1⟩ := hx.one
    exact .inl ⟨a, us, rfl, .inl ⟨.inl (.inl h1), fun p ob hp hdb => k.tup r r1 hp hdb⟩⟩
  · next ds =>
    cases e
    obtain ⟨x, rfl, hc⟩ := hx.one
    obtain ⟨a, us, rfl, h1, r1⟩ := hc.tup
    exact .inl ⟨a, us, rfl, .inr ⟨Same.tupS r.zh h1, k.keep r (.tup h1 r1)⟩⟩
  · cases e
end MI
namespace MI
open PySem PySem.Spec L2
section
variable {prog : Program} {w : World} {A : Around} {E : Value -> Shared -> Prop} {s : Shared} {z TI TO T i1 i2 L : Addr} {fp1 fp2 : List Addr} {n1 n2 i : Nat} {P1 P2 : Nat -> Value -> Prop} {St1 St2 : Nat -> Heap -> Prop} {f : Bool} {oT : Obj}
def ZSt (z TI TO i1 i2 L : Addr) (St1 St2 : Nat -> Heap -> Prop) (i : Nat) (h : Heap) : Prop :=
  IsTupOf2 h TI (.ref i1) (.ref i2) /\ St1 i h /\ St2 i h /\ ((IsZip h z TI TO .none /\ ∃ a b, IsTupOf2 h TO a b) \/ ∃ T f oT, IsZipHeld h z TI TO T f /\ h.get? T = some oT /\ T ≠ z /\ T ≠ i1 /\ T ≠ i2 /\ T ≠ L)
theorem ZSt.keep {h h' : Heap} (D1 : Draws prog w A i1 fp1 n1 P1 St1) (D2 : Draws prog w A i2 fp2 n2 P2 St2) (x : ZSt z TI TO i1 i2 L St1 St2 i h) (hk : ∀ b o, b ≠ L -> h.get? b = some o -> h'.get? b = some o)
    (n1 : L ∉ fp1) (n2 : L ∉ fp2) (n3 : z ≠ L) (n4 : TI ≠ L) (n5 : TO ≠ L) : ZSt z TI TO i1 i2 L St1 St2 i h' := by
  obtain ⟨hTI, st1, st2, hz⟩ := x
  refine ⟨hk _ _ n4 hTI, D1.frame _ _ _ st1 fun b hb o e => hk b o (fun q => n1 (q ▸ hb)) e, D2.frame _ _ _ st2 fun b hb o e => hk b o (fun q => n2 (q ▸ hb)) e, ?_⟩
  rcases hz with ⟨hz, a1, a2, hTO⟩ | ⟨T, f, oT, hz, hT, r1, r2, r3, r4⟩
  · exact .inl ⟨hk _ _ n3 hz, a1, a2, hk _ _ n5 hTO⟩
  · exact .inr ⟨T, f, oT, hk _ _ n3 hz, hk _ _ r4 hT, r1, r2, r3, r4⟩
structure ZpG (P1 P2 : Nat -> Value -> Prop) (lo : Addr) (h : Heap) (as : List Addr) : Prop where
  rise : as.Pairwise (· < ·)
  above : ∀ a ∈ as, lo < a
  pairs : ∀ (j : Nat) (a : Addr), as[j]? = some a -> ∃ x y, P1 j x /\ P2 j y /\ h.get? a = some { cls := .type "tuple", data := .seq #[x, y] }
theorem ZpG.there {lo : Addr} {h : Heap} {as : List Addr} (g : ZpG P1 P2 lo h as) {a : Addr} (ha : a ∈ as) : a < h.objs.size := by
  obtain ⟨j, hj⟩ := List.mem_iff_getElem?.mp ha
  obtain ⟨_, _, _, _, e⟩ := g.pairs j a hj
  exact Heap.lt_size e
end
end MI
namespace MI
open PySem PySem.Spec L2
end MI
namespace MI
open PySem PySem.Spec L2
end MI
namespace MI
open PySem PySem.Spec L2
section
variable {prog : Program} {w : World} {A : Around} {E : Value -> Shared -> Prop} {s : Shared} {d : Addr} {es : Array DictEntry} {ep : Nat}
theorem len_body_raw {Q : Value -> Shared -> Prop} (hd : (d == sysModules) = false) (hm : s.heap.DictRaw d es ep) (hfit : (es.size : Int) < 2 ^ 63)
    (h : Q (.int es.size (s.toks + 1)) { s with toks := s.toks + 1 + 1 }) : wpAny (model prog w) A (Builtin.«len» ⟨[.ref d], []⟩) (fun fin s' => ∃ r, fin = .done (.ret r) /\ Q r s') E s := by
  unfold Builtin.«len»
  refine wpAny_bind (m := oneArg "len" _) (wpAny_pure ?_)
  refine wpAny_bind (m := callSpecial? (.ref d) (Str.ofString "__len__")) (wpAny_callSpecial?_slot (name := Str.ofString "__len__") hm.typeIs F.slot_dict_len
    (call_meetsIn F.slot_dict_len hm.typeIs F.entry_dict_len (F.args_dict_len_1 _) (meets_dict_len_raw d hd) ⟨es, ep, hm, ?_⟩))
  show wpAny _ _ _ _ _ { s with toks := s.toks + 1 }
  refine wpAny_bind (wpAny_holding (wpAny_pure ?_))
  refine wpAny_bind (wpAny_letGo ?_)
  show wpAny _ _ (if ((es.size : Nat) : Int) < 0 then _ else _) _ _ _
  rw [if_neg (by omega)]
  show wpAny _ _ (if ((es.size : Nat) : Int) >= 2 ^ 63 then _ else _) _ _ _
  rw [if_neg (by omega)]
  exact wpAny_bind (wpAny_mkInt (wpAny_pure ⟨_, rfl, h⟩))
theorem len_call_raw {Q : Value -> Shared -> Prop} (hd : (d == sysModules) = false) (hm : s.heap.DictRaw d es ep) (hfit : (es.size : Int) < 2 ^ 63)
    (h : Q (.int es.size (s.toks + 1)) { s with toks := s.toks + 1 + 1 }) : wpAny (model prog w) A (call (.builtin "len") [.ref d]) Q E s :=
  Calls.call_function_entry kind_len plain_len entry_len (args_len1 _) (len_body_raw hd hm hfit h)
end
def rLenK : List V -> Hp -> VK -> Prop := fun xs H Q => ∃ (a : Addr) (kvs : List (Key × V)), xs = [.ref a] /\ Rd H a (.dK kvs) /\ Q (.int kvs.length) H
def rLenN (K : KX) : List V -> Hp -> VK -> Prop := fun xs H Q => ∃ (a : Addr) (o : Obj) (es : XS), xs = [.ref a] /\ H a = some (hoN a o) /\ RawN K a o es /\ Q (.int es.length) H
section
variable {X : Cx}
theorem call_lenK : CallR X (.builtin "len") rLenK := by
  intro pins s σ H xs us Q I r h
  obtain ⟨a, kvs, rfl, hd, q⟩ := h
  obtain ⟨u, rfl, rx⟩ := vals1 r
  cases rx
  obtain ⟨z, lo, vs, rel, dd⟩ := dk_rd I.hok hd
  have lz : vs.length = kvs.length := rel.length.symm
  have hn := line63
  exact call_len_dict lo dd (by omega) ⟨.int kvs.length, H, (I.tok _).tok _, ⟨s.toks + 1, by rw [lz]⟩, q⟩
theorem call_lenN : CallR X (.builtin "len") (rLenN X.kx) := by
  intro pins s σ H xs us Q I r h
  obtain ⟨a, o, ents, rfl, hd, raw, q⟩ := h
  obtain ⟨u, rfl, rx⟩ := vals1 r
  cases rx
  obtain ⟨es, ep, hod, hes⟩ := raw.ent
  have hl : es.size = ents.length := by rw [<- Array.length_toList, hes, List.length_map]
  have ho := (I.hok a _ hd).1
  have hr0 : s.heap.DictRaw a es ep := ⟨o, ho, raw.exact', hod⟩
  have hn := line63
  have hz := raw.len
  exact len_call_raw raw.ns hr0 (by omega) ⟨.int ents.length, H, (I.tok _).tok _, ⟨s.toks + 1, by rw [hl]⟩, q⟩
def rLenA (K : KX) : List V -> Hp -> VK -> Prop := cOr (rLenU K.K) (cOr rLenK (rLenN K))
theorem cr_lenA : CallR X (.builtin "len") (rLenA X.kx) := callR_or cr_lenU (callR_or call_lenK call_lenN)
end
def gLenA : List D -> Option D
  | [.dic ds] => some (.int ds.length)
  | [.dit ds] => some (.int ds.length)
  | [.lst ds] => some (.int ds.length)
  | [.tup ds] => some (.int ds.length)
  | _ => none
theorem ok_lenA {K : KX} {cls : Nat -> Addr} {own : Nat -> Bool} : FnOkD K cls own (rLenA K) gLenA := by
  intro G al m σ H xs da d Q r hx e k
  unfold gLenA at e
  split at e
  · next ds =>
    cases e
    obtain ⟨x, rfl, a, kvs, rfl, h1, h2, h3⟩ := hx.one
    have hl := congrArg List.length h2
    simp only [List.length_map] at hl
    rw [hl] at k
    exact .inr (.inl ⟨a, kvs, rfl, h1, k.keep r (.int _)⟩)
  · next ds =>
    cases e
    obtain ⟨x, rfl, a, o, es, vs, rfl, h1, h2, h3, h4, h5, h6⟩ := hx.one
    have hl := h3.length
    simp only [List.length_map] at hl
    rw [<- hl] at k
    exact .inr (.inr ⟨a, o, es, rfl, h1, h2, k.keep r (.int _)⟩)
  · next ds => exact .inl (ok_len G al m σ H xs _ d Q r hx e k)
  · next ds => exact .inl (ok_len G al m σ H xs _ d Q r hx e k)
  · cases e
end MI
namespace MI
open PySem PySem.Spec L2
end MI
namespace MI
open PySem PySem.Spec L2
end MI
namespace MI
open PySem PySem.Spec L2
end MI
namespace MI
open PySem PySem.Spec L2
end MI
namespace MI
open PySem PySem.Spec L2
end MI
namespace MI
open PySem PySem.Spec L2
abbrev Xr := D ⊕ (Nat × List (Str × D))
abbrev FnX := List D -> Sto -> Option (Xr × Sto)
def runFnX (n : Nat) (body : Den Fl) : FnX := fun ds st => match body ⟨ds.map some ++ List.replicate (n - ds.length) none, st⟩ with
  | .ok (.rt d) m => some (.inl d, m.st)
  | .ok .nx m => some (.inl .non, m.st)
  | .ok (.xc c fs) m => some (.inr (c, fs), m.st)
  | _ => none
def XEnd (K : KX) (cls : Nat -> Addr) (G : Gh) (al : List Addr) (st' : Sto) (Q : VK) (E : XK) : Xr -> Prop
  | .inl d => ∀ G' al' v H', Ev G al G' al' -> Hst K cls G' al' st' H' -> DV K (Zof G') al' v d -> Q v H'
  | .inr (c, fs) => ∀ G' al' dd H', Ev G al G' al' -> Hst K cls G' al' st' H' -> XF K (Zof G') al' H' dd fs -> E (.ref (cls c)) dd H'
def SpX (K : KX) (cls : Nat -> Addr) (np : Nat) (fn : FnX) : Sp := fun vs H Q E => vs.length = np /\ ∃ G al ds st r st', Hst K cls G al st H /\ DVs K (Zof G) al vs ds /\ fn ds st = some (r, st') /\ XEnd K cls G al st' Q E r
structure FnGX (P : Program) (w : World) (K : PySem.W.Frag) (mg : Str -> Option Value) (base : Heap) (k : Nat) (f : Addr) (fd : FuncData) (ps : List Str) (sp : Sp) : Prop where
  len : ∀ vs H Q E, sp vs H Q E -> vs.length = ps.length
  go : ∀ (A : Around) (out : List Env) (s : Shared) (H : Hp) (ar : Args) (us : List Value) (vs : List V) (Q : VK) (E : XK), Room k A -> A.guards = some [] -> Env0 P w K mg base A out s H -> BindsTo s fd ar (ps.zip us) -> Vals vs us -> sp vs H Q E ->
    codeAny (model P w) A (.call (.ref f) ar) (L2.CR (L2.CX P w) out P w H s Q E) s
section
variable {P : Program} {w : World} {K : PySem.W.Frag} {mg : Str -> Option Value} {base : Heap} {x qual : Str} {params : Arguments} {body : List Stmt} {scope : Scope} {dvs : List V} {kws : List (Str × V)} {f : Addr} {fd : FuncData} {cls : Nat -> Addr} {own : Nat -> Bool}
theorem fnGX_of {N ps : List Str} {k : Nat} {sp : Sp} (F : FunD K x qual params body scope dvs kws f fd) (S : FnScope N ps scope) (len : ∀ vs H Q E, sp vs H Q E -> vs.length = ps.length)
    (hb : ∀ (cdv : Value) (A : Around) (out : List Env) (s : Shared) (H : Hp) (vs : List V) (Q : VK) (E : XK), Room k (A.deeper (PyProof.Rows.envOfC qual scope s.heap.objs.size f cdv)) -> A.guards = some [] -> sp vs H Q E ->
      ∃ t, PSs (cxOf (L2.CX P w) P w K mg base N qual scope f cdv A out s H E) body t /\ t { nx := fun _ H' => Q .non H', rt := Q } (L2.start N vs) H) : FnGX P w K mg base (k + 1) f fd ps sp := by
  obtain ⟨oc, od, dV, kV, doc, pm, an, cdv, ct, osl, rfl, lk, hcd, _, _⟩ := F.ex
  refine ⟨len, fun A out s H ar us vs Q E room gd env bt rel hsp => ?_⟩
  have kin : K.In s.heap := env.mod.kin.keeps fun b o e => (env.bs b o e).1
  have nolim : s.heap.NoLimit := env.mod.nolimit.keeps fun b o e => (env.bs b o e).1
  have kinds : ∀ y ∈ ps.zip us, scope.names.lookup y.1 = some .local \/ (scope.names.lookup y.1 = some .cell /\ ((cellsFrom (s.heap.objs.size + 1) scope.names []).lookup y.1).isSome = true) := by
    rintro ⟨n, v⟩ hy
    rcases S.par n (List.of_mem_zip hy).1 with z | z
    · exact .inl z
    · exact .inr ⟨z, PySem.W.cellsFrom_some _ _ _ (.inl z)⟩
  refine codeAny_call_function room.depth (kin _ _ lk) rfl S.co S.gen rfl (PySem.W.codeRec_of kin hcd) (bt _ _ _ _ ?_)
  refine wpAny_newFunctionEnv_cells S.kind kinds fun en hen s1 inc => ?_
  subst hen
  refine ⟨nolim.keeps inc.toInCall.keep, codeAny_func ?_⟩
  obtain ⟨t, pt, ht⟩ := hb cdv A out s H vs Q E (room.deeper _) gd hsp
  have J0 : Inv (cxOf (L2.CX P w) P w K mg base N qual scope f cdv A out s H E) [] (L2.start N vs) H s1 := inv_start S room.hd env (len _ _ _ _ hsp) rel inc
  refine wpAny_mono (pt.run [] s1 (L2.start N vs) H _ J0 ht) (fun fl s' hs => ?_) fun e s' hs => hs
  cases fl with
  | ret u =>
    obtain ⟨v, σ', H', J, rv, q⟩ := hs
    exact ⟨v, H', J.os, J.bare, J.base, J.hok, rv, q⟩
  | next =>
    obtain ⟨σ', H', J, q⟩ := hs
    exact ⟨.non, H', J.os, J.bare, J.base, J.hok, rfl, q⟩
  | brk => obtain ⟨_, _, _, q⟩ := hs; exact q.elim
  | cont => obtain ⟨_, _, _, q⟩ := hs; exact q.elim
theorem start_rst {N : List Str} {np : Nat} {G : Gh} {al : List Addr} {ds : List D} {st : Sto} {vs : List V} {H : Hp} (hop : ∀ i, i < np -> own i = false) (hl : vs.length = np) (hst : Hst ⟨K, P, w⟩ cls G al st H) (dv : DVs ⟨K, P, w⟩ (Zof G) al vs ds) :
    Rst ⟨K, P, w⟩ cls own G al ⟨ds.map some ++ List.replicate (N.length - ds.length) none, st⟩ (L2.start N vs) H := by
  refine ⟨hst, by simp [L2.start, dv.length], fun i d q ho => ?_, fun i d q ho => ?_⟩
  · obtain ⟨v, h1, h2⟩ := dv.get (start_get q)
    refine ⟨v, ?_, h2⟩
    unfold L2.start
    rw [List.getElem?_append_left (by simpa using (List.getElem?_eq_some_iff.mp h1).1), List.getElem?_map, h1]
    rfl
  · have := (List.getElem?_eq_some_iff.mp (start_get q)).1
    rw [hop i (by rw [<- hl, dv.length]; exact this)] at ho
    cases ho
theorem fn_okGX {N ps : List Str} {k : Nat} {den : Den Fl} (F : FunD K x qual params body scope dvs kws f fd) (S : FnScope N ps scope) (hop : ∀ i, i < ps.length -> own i = false)
    (hb : ∀ (cdv : Value) (A : Around) (out : List Env) (s : Shared) (H : Hp) (E : XK), Room k (A.deeper (PyProof.Rows.envOfC qual scope s.heap.objs.size f cdv)) -> A.guards = some [] -> SSs cls own (cxOf (L2.CX P w) P w K mg base N qual scope f cdv A out s H E) body den) :
    FnGX P w K mg base (k + 1) f fd ps (SpX ⟨K, P, w⟩ cls ps.length (runFnX N.length den)) := by
  refine fnGX_of F S (fun vs H Q E h => h.1) fun cdv A out s H vs Q E hr gd h => ⟨_, hb cdv A out s H E hr gd, ?_⟩
  obtain ⟨hl, G, al, ds, st, r, st', hst, dv, e, k⟩ := h
  have r0 := start_rst (N := N) (own := own) hop hl hst dv
  unfold runFnX at e
  split at e
  case h_4 => cases e
  case h_1 _ d0 m0 e0 =>
    cases e
    exact ⟨G, al, _, .rt _, m0, r0, e0, fun G1 al1 σ1 H1 ev1 r1 v dv1 => k G1 al1 v H1 ev1 r1.hst dv1⟩
  case h_2 _ m0 e0 =>
    cases e
    exact ⟨G, al, _, .nx, m0, r0, e0, fun G1 al1 σ1 H1 ev1 r1 => k G1 al1 .non H1 ev1 r1.hst .non⟩
  case h_3 _ c fs m0 e0 =>
    cases e
    refine ⟨G, al, _, .xc c fs, m0, r0, e0, fun G1 al1 σ1 H1 ev1 r1 dd hx => ?_⟩
    exact wx_of (W := fun c' d' _ H' => E c' d' H') (takes_of (X := cxOf (L2.CX P w) P w K mg base N qual scope f cdv A out s H E) rfl rfl rfl rfl) (k G1 al1 dd H1 ev1 r1.hst hx)
end
structure MetGX (P : Program) (w : World) (K : PySem.W.Frag) (mg : Str -> Option Value) (base : Heap) (cls : Nat -> Addr) (k : Nat) (c : Nat) (m : Str) (f : Addr) (fd : FuncData) (ps : List Str) (fn : FnX) : Prop where
  ok : FnGX P w K mg base k f fd ps (SpX ⟨K, P, w⟩ cls ps.length fn)
  cl : Cls K (cls c)
  me : Meth K (cls c) m f
def XEndR (X : Cx) (cls : Nat -> Addr) (own : Nat -> Bool) (G : Gh) (al : List Addr) (m' : MS) (σ : St) (Q : VK) : Xr -> Prop
  | .inl d => ∀ G' al' v H', Ev G al G' al' -> Rst X.kx cls own G' al' m' σ H' -> DV X.kx (Zof G') al' v d -> Q v H'
  | .inr (c, fs) => ∀ G' al' dd H', Ev G al G' al' -> Rst X.kx cls own G' al' m' σ H' -> XF X.kx (Zof G') al' H' dd fs -> Wx X (.ref (cls c)) dd σ H'
def tX (X : Cx) (cls : Nat -> Addr) (own : Nat -> Bool) (f : Den Xr) : TE := fun σ H Q => ∃ G al m r m', Rst X.kx cls own G al m σ H /\ f m = .ok r m' /\ XEndR X cls own G al m' σ Q r
abbrev SX (cls : Nat -> Addr) (own : Nat -> Bool) (X : Cx) (e : Expr) (f : Den Xr) : Prop := PE X e (tX X cls own f)
section
variable {cls : Nat -> Addr} {own : Nat -> Bool} {X : Cx} {k j n c : Nat} {f : Addr} {fd : FuncData} {ps ks : List Str} {fn : FnX} {x nm : Str} {p pos apos : Pos} {e o : Expr} {es : List Expr} {fo : Den D} {fs fk : Den (List Hd)} {kws : List Keyword} {sp : List Src} {dvs : List V} {dds : List D} {mv : List Value}
theorem runGX {pins : List (Addr × Obj)} {σ : St} {H : Hp} {s : Shared} {Q : VK} {us ws : List Value} {vs zs : List V} {sp : Sp} {g : List Value -> List Value -> List Value} {gV : List V -> List V -> List V} (F : FnGX X.prog X.w X.K X.mg X.base k f fd ps sp) (hr : Room k X.A) (gd : X.A.guards = some []) (hb : KBn X.K fd ps n ks g gV)
    (I : Inv X pins σ H s) (r : Vals vs us) (rz : Vals zs ws) (l1 : vs.length = n) (l2 : zs.length = ks.length) (h : sp (gV vs zs) H Q (fun c d H' => Wx X c d σ H')) : wpAny (model X.prog X.w) X.A (call (.ref f) us (ks.zip ws)) (EP X pins σ Q) X.xe s := by
  refine wpAny_call (codeAny_mono (F.go X.A X.stack s H ⟨us, ks.zip ws⟩ (g us ws) (gV vs zs) Q (fun c d H' => Wx X c d σ H') hr gd I.env0 (hb.to s us ws I.kIn (by rw [<- r.length]; exact l1) (by rw [<- rz.length]; exact l2)) (hb.rel r rz) h) fun res s' hq => ?_)
  cases res with
  | error ex => exact wx_takes ex s' (XE.of_call (W := Wx X) I (fun _ _ _ z => z) hq)
  | ok fl => cases fl with
    | ret u => exact I.after hq
    | next => exact hq.elim
    | brk => exact hq.elim
    | cont => exact hq.elim
theorem callX_core {σ : St} {H : Hp} {Q : VK} {np : Nat} {G : Gh} {al : List Addr} {m : MS} {r0 : Xr} {as : List D} {st' : Sto} {vs : List V} (hnp : vs.length = np) (r : Rst X.kx cls own G al m σ H) (dv : DVs X.kx (Zof G) al vs as) (e2 : fn as m.st = some (r0, st'))
    (k : XEndR X cls own G al { m with st := st' } σ Q r0) : SpX X.kx cls np fn vs H Q (fun c d H' => Wx X c d σ H') := by
  refine ⟨hnp, callG G, al, as, m.st, r0, st', r.hst.call, by rw [zof_callG]; exact dv, e2, ?_⟩
  cases r0 with
  | inl d => exact fun G' al' v H' ev hst dvv => k (aftG G G') al' v H' (ev_aft ev) (r.after ev hst) (by rw [zof_aft ev]; exact dvv)
  | inr q =>
    obtain ⟨c, fs⟩ := q
    exact fun G' al' dd H' ev hst hx => k (aftG G G') al' dd H' (ev_aft ev) (r.after ev hst) (by rw [zof_aft ev]; exact hx)
end
end MI
namespace MI
open PySem PySem.Spec L2
structure XcI (K : PySem.W.Frag) (C : Addr) (initId : String) : Prop where
  ex : ∃ B newId bmB, ExcBaseFacts B newId initId bmB /\ PySem.W.excInitIn K C bmB newId = true
section
variable {X : Cx} {pins : List (Addr × Obj)} {σ : St} {H : Hp} {s : Shared} {a C : Addr} {initId : String}
theorem xinit_ok {A : Around} {E : Value -> Shared -> Prop} {us : List Value} {Q : Value -> Shared -> Prop} (T : XcI X.K C initId) (J : Inv X pins σ H s) (ea : H a = some (exo a C none)) (lu : us.length <= sizeLine) (z : ∀ s', Inv X pins σ H s' -> Q .none s') :
    wpAny (model X.prog X.w) A (call (.builtin initId) (.ref a :: us)) Q E s := by
  obtain ⟨B, newId, bmB, F, q⟩ := T.ex
  obtain ⟨_, _, _, _, bm, _, _, _, _, _, _, _, _, _, _, _, oC, tail⟩ := PySem.W.excInit_of J.kIn q
  obtain ⟨t0, oa⟩ := exo_at J.hok ea
  obtain ⟨hh, gs, dr, tk, os⟩ := s
  refine wpAny_call (PySem.HandSPX.init_base F tail oC oa lu fun h2 t2 kk oa2 => ?_)
  have J2 := J.write (t' := tk) (x := a) (e := a) (o := exo a C none) (by rw [ea]; trivial) (.inl rfl) kk ⟨_, oa2⟩ (exo_ok oa2)
  have same : upd H a (exo a C none) = H := funext fun b => if hb : b = a then by rw [hb, upd_same, ea] else upd_ne hb
  rw [same] at J2
  exact z _ J2
end
def tXi (K : PySem.W.Frag) (initId : String) (ta : TA) : TE := fun σ H Q => ta σ H fun vs H1 => ∃ (a C : Addr) (ws : List V), vs = .ref a :: ws /\ ws.length <= 1000 /\ XcI K C initId /\ H1 a = some (exo a C none) /\ Q .non H1
structure RI (K : PySem.W.Frag) (CR : Addr) (initId : String) : Prop where
  ga : PySem.W.specialIn K (.ref CR) "__getattribute__" = some (some (.builtin "type.__getattribute__"))
  rd : PySem.W.readsIn K CR (.type "type") = true
  fc : PySem.W.findCls K (.ref CR) (.type "type") "__init__" = some (.val (.builtin initId))
  hi : PySem.W.handedIn (.builtin initId) = true
section
variable {X : Cx} {e : Expr} {es : List Expr} {ta : TA} {p1 p2 pos : Pos} {R : Str} {CR : Addr} {initId : String}
theorem pe_xinit {pl : Sem Bool} (gR : Gl X R) (mR : X.mg R = some (.ref CR)) (T : RI X.K CR initId) (ha : PA X (e :: es) ta) (hdb : (R == ("__debug__" : Str)) = false := by decide)
    (hc : eval (.Call (.Attribute (.Name R p1) "__init__" p2) (e :: es) [] pos) X.env = (do
      let ov <- eval (.Name R p1) X.env
      standAt p2.atName
      let (f, first) <- holding [ov] (getMethod ov "__init__" pl)
      callWith pos f first (backTo pos (starEach (e :: es) X.env)) (backToKw pos (keywordEach [] X.env))) := by rfl)
    (he : starEach (e :: es) X.env = (false, eval e X.env) :: starEach es X.env := by rfl) (hpl : (backTo pos (starEach es X.env)).any (·.1) = false := by rfl) :
    PE X (.Call (.Attribute (.Name R p1) "__init__" p2) (e :: es) [] pos) (tXi X.K initId ta) := by
  refine ⟨fun pins s σ H Q J h => ?_⟩
  refine PySem.W.methodCall_KW (ld_glob J gR mR ?_ hdb) hc
  refine PySem.W.method_cls J.kIn T.ga (PySem.W.cls_value J.kIn T.rd T.fc T.hi ?_)
  show wpAny _ _ (callWith pos (Value.builtin initId) [] (backTo pos (starEach (e :: es) X.env)) []) _ _ _
  refine PyProof.Rows.callWith_method1 (thn (ha.run pos pins _ σ H _ (J.tok _) h) fun us s1 ⟨vs, H1, J1, r1, a, C, ws, ev, lw, TC, ea, q⟩ => ?_) he hpl
  subst ev
  cases r1 with
  | @cons _ u0 _ ur ra rw' =>
    obtain rfl : u0 = Value.ref a := ra
    have lu : ur.length <= sizeLine := by
      have := Paired.length rw'
      rw [sizeLine_eq]
      omega
    exact xinit_ok TC J1 ea lu fun s' J2 => ⟨.non, H1, J2, rfl, q⟩
end
def sp0 (C : Addr) : Sp := fun vs H Q _ => ∃ a, vs = [.ref a] /\ H a = some (exo a C none) /\ Q .non H
def spF (C : Addr) (f : Str) : Sp := fun vs H Q _ => ∃ a v, vs = [.ref a, v] /\ H a = some (exo a C none) /\ ∀ dx, H dx = none -> dx ≠ a -> Q .non (upd (upd H dx (exd dx [(f, v)])) a (exo a C (some dx)))
structure Ex0 (P : Program) (w : World) (K : PySem.W.Frag) (mg : Str -> Option Value) (base : Heap) (k : Nat) (x : Str) (C : Addr) : Prop where
  ex : ∃ (fI : Addr) (fd : FuncData) (sl : Str) (initId : String), XcI K C initId /\ FnOk P w K mg base CX0 k fI fd [sl] (sp0 C) /\ Binds K fd [sl] [] /\ PySem.W.findIn K (.ref C) "__init__" = some (some (.ref fI)) /\ PySem.W.typeIn K (.ref fI) = some (.type "function")
  kC : PySem.W.keepIn K (.ref C) = true
  exC : PySem.W.subIn K (.ref C) (.type "BaseException") = some true
  tyC : PySem.W.typeIn K (.ref C) = some (.type "type")
  gl : mg x = some (.ref C)
structure ExF (P : Program) (w : World) (K : PySem.W.Frag) (mg : Str -> Option Value) (base : Heap) (k : Nat) (x : Str) (C : Addr) (f : Str) : Prop where
  ex : ∃ (fI : Addr) (fd : FuncData) (sl al : Str), FnOk P w K mg base CX0 k fI fd [sl, al] (spF C f) /\ Binds K fd [sl, al] [] /\ PySem.W.findIn K (.ref C) "__init__" = some (some (.ref fI)) /\ PySem.W.typeIn K (.ref fI) = some (.type "function")
  T : OexC K C
  gl : mg x = some (.ref C)
end MI
namespace MI
open PySem PySem.Spec L2
theorem exH_ok {P : Program} {w : World} {H : Hp} {h : Heap} {a C : Addr} {d : Option Addr} {oe : Obj} {vs : Array Value} (e : h.get? a = some oe) (hc : oe.cls = .ref C) (hd : oe.dict = d) (hv : oe.data = .fields vs) : ObjOk P w H h a (exH a C d) :=
  ⟨⟨oe, vs, e, hc, hd, hv⟩, ⟨oe, e⟩, fun h1 h2 ⟨o, v, e1, r⟩ k => ⟨o, v, k _ e1, r⟩⟩
section
variable {X : Cx} {pins : List (Addr × Obj)} {σ : St} {H : Hp} {s : Shared} {a : Addr} {o : HO}
theorem Inv.track (J : Inv X pins σ H s) (na : H a = none) (n0 : X.s_0.heap.get? a = none) (nc : ∀ v, ¬ s.heap.IsCell a v) (nL : a ≠ X.env.locals) (np : ∀ p ∈ X.pn ++ pins, p.1 ≠ a) (new : ObjOk X.prog X.w (upd H a o) s.heap a o) :
    Inv X pins σ (upd H a o) s := by
  have ne0 : ∀ b u, X.s_0.heap.get? b = some u -> b ≠ a := fun b u z w => by rw [w, n0] at z; cases z
  have neH : ∀ {b : Addr} {u : HO}, H b = some u -> b ≠ a := fun {b u} z w => by rw [w, na] at z; cases z
  have keep : ∀ {b : Addr} {u : HO}, H b = some u -> upd H a o b = some u := fun {b u} z => by rw [upd_ne (neH z)]; exact z
  refine ⟨J.ok, J.os, J.bare, ⟨J.base.keep, J.base.slot, fun b u z n x => ?_, J.base.there, fun b xs z => keep (J.base.tups b xs z), fun b u v z => keep (J.base.frzs b u v z), fun b ps z => ?_⟩, J.loc, J.cell, by rw [upd_ne nL.symm]; exact J.free, fun x c z => ?_, fun p hp => ?_, fun b u z => ?_, J.len⟩
  · rw [upd_ne (ne0 b u z)]
    exact J.base.free b u z n x
  · obtain ⟨more, z2⟩ := J.base.tbls b ps z
    exact ⟨more, keep z2⟩
  · have hca : c ≠ a := fun w => by
      obtain ⟨v, z2⟩ := J.cell x c z
      rw [w] at z2
      exact nc v z2
    rw [upd_ne hca]
    exact J.freeC x c z
  · obtain ⟨e, n, r⟩ := J.pin p hp
    exact ⟨e, by rw [upd_ne (np p hp)]; exact n, r⟩
  · by_cases hb : b = a
    · subst hb
      rw [upd_same] at z
      cases z
      exact new
    · rw [upd_ne hb] at z
      exact (J.hok b u z).stay (fun c v _ q => q) (fun c q => keep q) fun c xs q => keep q
end
theorem flying_more {B h h' : Heap} {l : List Env} {a : Addr} {Z : Obj -> Prop} (f : PySem.HandSPX.FlyingZ B l a Z h) (k : ∀ b u, h.get? b = some u -> h'.get? b = some u) : PySem.HandSPX.FlyingZ B l a Z h' := by
  obtain ⟨f1, f2, f3, oe, vs, T, oT, ts, e1, z, e2, e3, e4, e5, e6, e7, e8⟩ := f
  exact ⟨fun b u q => k _ _ (f1 b u q), f2, f3.of_keeps (fun b u q _ => ⟨u, k _ _ q, rfl⟩), oe, vs, T, oT, ts, k _ _ e1, z, e2, e3, e4, e5, k _ _ e6, e7, e8⟩
def sTry2 (xs : List Nat) (i j : Nat) (f : Den Fl) : Den Fl := f.bind fun fl => fun m => match fl with
  | .xc c fs => if c ∈ xs then .ok .nx ⟨(m.sl.set j none).set i (some (.obj m.st.length)), m.st ++ [.exc c fs]⟩ else .bad
  | fl => .ok fl m
section
variable {K : KX} {cls : Nat -> Addr} {own : Nat -> Bool} {G : Gh} {al : List Addr} {m : MS} {σ : St} {H : Hp}
theorem Rst.unset (r : Rst K cls own G al m σ H) (j : Nat) : Rst K cls own G al ⟨m.sl.set j none, m.st⟩ (σ.set j none) H := by
  refine ⟨r.hst, by simpa using r.len, fun i d q ho => ?_, fun i d q ho => ?_⟩
  · by_cases hij : i = j
    · subst hij
      have := (List.getElem?_eq_some_iff.mp q).1
      rw [List.length_set] at this
      rw [List.getElem?_set_self this] at q
      cases q
    · rw [List.getElem?_set_ne (Ne.symm hij)] at q
      obtain ⟨v, e, dv⟩ := r.val i d q ho
      exact ⟨v, by rw [List.getElem?_set_ne (Ne.symm hij)]; exact e, dv⟩
  · by_cases hij : i = j
    · subst hij
      have := (List.getElem?_eq_some_iff.mp q).1
      rw [List.length_set] at this
      rw [List.getElem?_set_self this] at q
      cases q
    · rw [List.getElem?_set_ne (Ne.symm hij)] at q
      obtain ⟨b, o, e, g, c⟩ := r.own i d q ho
      exact ⟨b, o, by rw [List.getElem?_set_ne (Ne.symm hij)]; exact e, g, c⟩
end
def tSJ (J : Gh -> List Addr -> Prop) (X : Cx) (cls : Nat -> Addr) (own : Nat -> Bool) (f : Den Fl) : TS := fun E σ H => ∃ G al m fl m', Rst X.kx cls own G al m σ H /\ J G al /\ f m = .ok fl m' /\
  ∀ G' al' σ' H', Ev G al G' al' -> Rst X.kx cls own G' al' m' σ' H' -> EndsD X cls (Zof G') al' E σ' H' fl
theorem set_swap {α : Type} {l : List α} {i j : Nat} {x y : α} (h : i ≠ j) : (l.set i x).set j y = (l.set j y).set i x := List.set_comm _ _ h
section
variable {cls : Nat -> Addr} {own : Nat -> Bool} {X : Cx} {A B n cv : Str} {cA cB : Value} {i j kk : Nat} {xs : List Nat} {body : List Stmt} {f : Den Fl} {p1 p2 tp q1 q2 q3 pos pos' : Pos}
theorem ss_try2J {J : Gh -> List Addr -> Prop} (hs : X.stack = X.env :: X.outer) (hf : X.env.frame = some X.env.locals) (hN : X.N.Nodup) (hj : X.N[j]? = some n) (hi : X.N[i]? = some cv) (hij : i ≠ j) (hln : X.env.kindOf n = some .local) (hlc : X.env.kindOf cv = some .local)
    (hn2 : X.env.scope.names.lookup n = some .local) (hc2 : X.env.scope.names.lookup cv = some .local) (oi : own i = false) (nA : Names X A cA) (nB : Names X B cB) (hx : ∀ c ∈ xs, PySem.W.exmAny X.K (.ref (cls c)) [cA, cB] = some true)
    (hb : ∀ (pn : List (Addr × Obj)) (xe : Value -> Shared -> Prop), PSs (X.tr pn xe) body (tSJ J (X.tr pn xe) cls own f)) (hv : Vis X.env.scope n) (hex : X.ex = [] := by rfl)
    (hsw : swapsWith (.Name n q2) (some (.Name cv q1)) q3.line X.env = pure false := by rfl) (hdn : (n == ("__debug__" : Str)) = false := by decide) (hdc : (n == ("__classdict__" : Str)) = false := by decide) :
    PS X (.Try body [.ExceptHandler (some (.Tuple [.Name A p1, .Name B p2] kk tp)) (some n) [.Assign [.Name cv q1] (.Name n q2) q3] pos'] [] [] pos) (tSJ J X cls own (sTry2 xs i j f)) := by
  refine ⟨fun pins s σ H D I h => ?_⟩
  obtain ⟨G, al, m, fl, m', r, jj, e, K0⟩ := h
  obtain ⟨fl1, m1, e1, e⟩ := bind_ok e
  have ok := I.ok
  have hfr : X.A.frames = some (X.env :: X.outer) := by rw [ok.frames, hs]
  refine wpAny_Try_except ?_
  refine wpAny_mono ((hb (X.pn ++ pins) (fun u s₁ => wpAny (model X.prog X.w) X.A (noteFrame u X.env) (fun _ s₂ => wpAny (model X.prog X.w) X.A (setFlight u none) (fun _ s₃ =>
    wpAny (model X.prog X.w) X.A (handleBy u X.env [.ExceptHandler (some (.Tuple [.Name A p1, .Name B p2] kk tp)) (some n) [.Assign [.Name cv q1] (.Name n q2) q3] pos']) (L2.SP X pins D) X.xe s₃) X.xe s₂) X.xe s₁)).run [] s σ H D (I.toTry _)
      ⟨G, al, m, fl1, m1, r, jj, e1, fun G1 al1 σ1 H1 ev1 r1 => ?_⟩) (fun fb s1 hsp => ?_) (fun ex s1 he => he)
  · cases fl1 with
    | nx => cases e; exact K0 G1 al1 σ1 H1 ev1 r1
    | rt d => cases e; exact fun v dv => K0 G1 al1 σ1 H1 ev1 r1 v dv
    | bk => cases e; exact K0 G1 al1 σ1 H1 ev1 r1
    | ct => cases e; exact K0 G1 al1 σ1 H1 ev1 r1
    | xc c fs =>
      split at e
      case h_2 _ hno => exact absurd rfl (hno c fs)
      next c' fs' ec =>
      cases ec
      split at e
      case isFalse => cases e
      next hcx =>
      cases e
      intro dd hxf u s' xx
      obtain ⟨a, Bg, sI, pins', σ', H', cl', d', rfl, J', nb, up, sky, na, eos, ag, rfl, rfl, rfl, rfl⟩ := xx
      have J : Inv X pins σ' H' sI := J'.ofTry ok
      have skyB : Bg.get? a = none := by
        rcases sky with ⟨_, q, _⟩ | ⟨_, q, _⟩ | ⟨_, q, _⟩ <;> exact q
      have sky' : Sky Bg (X.env :: X.outer) a (Zc (.ref (cls c)) d') X.env.locals s'.heap := by rw [<- hs]; exact sky
      show wpAny (model X.prog X.w) X.A (noteFrame (.ref a) X.env) _ _ _
      refine Sky.land Zc.steady hfr hf sky' fun h3 fl3 up3 => ?_
      refine wpAny_handleBy_cons (codeAny_handlers_test ?_) (by intro q; cases q)
      obtain ⟨oe3, vs3, ea3, z3, dat3⟩ := fl3.there
      have notFr : ∀ {hh : Heap} {oo : Obj} {vv : Array Value}, hh.FunFrames Bg (X.env :: X.outer) -> hh.get? a = some oo -> oo.data = .fields vv -> a ∉ frs (X.env :: X.outer) := fun {hh oo vv} ff ee dq hm => by
        obtain ⟨_, o2, e2, hnf⟩ := ff.mem hm
        rw [ee] at e2; cases e2
        exact hnf _ dq
      have nfr := notFr fl3.2.2.1 ea3 dat3
      have nL : a ≠ X.env.locals := fun z => nfr (List.mem_filterMap.mpr ⟨X.env, List.mem_cons_self, by rw [hf, z]⟩)
      have J3 : Inv X pins σ' H' { s' with heap := h3 } := J.landed nb fl3.1 (up.trans up3) eos ag
      have S3 : Inv (X.suite a (X.pn ++ pins)) [] σ' H' { s' with heap := h3 } :=
        ⟨ok.suite _ _, J3.os, J3.bare, J3.base, J3.loc, J3.cell, J3.free, J3.freeC, fun p hp => J3.pin p (by rw [List.append_nil] at hp; exact hp), J3.hok, J3.len⟩
      have LT : PySem.W.Looks (model X.prog X.w) h3 (typeOf (.ref a)) (.ref (cls c)) := fun A Q E s k q => wpAny_typeOf_ref (k _ _ ea3) (by rw [z3.1]; exact q)
      have name : ∀ {x : Str} {v : Value} {px : Pos} {Q : Value -> Shared -> Prop} {E : Value -> Shared -> Prop}, Names X x v -> Q v { s' with heap := h3 } -> wpAny (model X.prog X.w) (X.A.mark (some (.ref a))) (eval (.Name x px) X.env) Q E { s' with heap := h3 } := fun {x v px Q E} nm q => by
        obtain ⟨hg, hdbg, hm | ⟨hm, hv', hnn⟩⟩ := nm
        · exact ld_glob (X := X.suite a (X.pn ++ pins)) S3 hg hm q hdbg
        · exact ld_blt (X := X.suite a (X.pn ++ pins)) S3 hg hm hv' q hnn hdbg
      have push3 : ∀ b u, h3.get? b = some u -> (h3.push { cls := .type "tuple", data := .seq [cA, cB].toArray }).get? b = some u := fun _ _ z => Heap.get?_push_of_some _ z
      refine wpAny_Tuple ?_
      refine wpAny_items_cons (name nA ?_)
      refine wpAny_items_cons (name nB ?_)
      refine wpAny_items_nil ⟨by size_fits, ?_⟩
      refine (PySem.W.exm_tup2 (J3.kIn.keeps push3) (LT.keeps push3) (Heap.get?_push_size h3 rfl) (hx c hcx)).here ?_
      have fl4 := flying_more fl3 push3
      have up4 : h3.UpToSlots (h3.push { cls := .type "tuple", data := .seq [cA, cB].toArray }) := Heap.UpToSlots.of_keeps push3
      generalize h3.push { cls := .type "tuple", data := .seq [cA, cB].toArray } = h4 at *
      refine codeAny_handlers_suite_as ?_
      refine PySem.HandSPX.lands_againZ fl4 fun h5 fl5 up5 => ?_
      obtain ⟨oe5, vs5, ea5, z5, dat5⟩ := fl5.there
      have J5 : Inv X pins σ' H' { s' with heap := h5 } := J.landed nb fl5.1 (((up.trans up3).trans up4).trans up5) eos ag
      have nI : sI.heap.get? a = none := by
        cases q : sI.heap.get? a with
        | none => rfl
        | some o =>
          have := nb a o q (by rw [show (X.tr (X.pn ++ pins) _).stack = X.stack from rfl, hs]; exact nfr)
          rw [skyB] at this
          cases this
      have n0 : X.s_0.heap.get? a = none := by
        cases q : X.s_0.heap.get? a with
        | none => rfl
        | some o =>
          obtain ⟨o', q'⟩ := J.base.there a o q (by rw [hex]; simp)
          rw [nI] at q'
          cases q'
      have T5 := Inv.track (o := exH a (cls c) d') J5 na n0 (fun v ⟨o, z1, z2⟩ => by
          have z1 : h5.get? a = some o := z1
          rw [ea5] at z1
          cases z1
          rw [dat5] at z2
          cases z2) nL (fun p hp z => by
          obtain ⟨q, _⟩ := J.pin p hp
          rw [z, nI] at q
          cases q) (exH_ok ea5 z5.1 z5.2 dat5)
      have S5 : Inv (X.suite a (X.pn ++ pins)) [] σ' (upd H' a (exH a (cls c) d')) { s' with heap := h5 } :=
        ⟨ok.suite _ _, T5.os, T5.bare, T5.base, T5.loc, T5.cell, T5.free, T5.freeC, fun p hp => T5.pin p (by rw [List.append_nil] at hp; exact hp), T5.hok, T5.len⟩
      refine store_ok (X := X.suite a (X.pn ++ pins)) (v := .ref a) S5 hN hj (.inl hln) rfl (fun s6 S6 => ?_) (.inr hn2)
      have asg : PSs (X.suite a (X.pn ++ pins)) [.Assign [.Name cv q1] (.Name n q2) q3] (tAsg (tVar j) (gName i)) := pss_one (ps_set hN hi (.inl hlc) (pe_var hj hv hdn hdc) hsw (.inr hc2))
      have hjl : j < σ'.length := by rw [J.len]; exact (List.getElem?_eq_some_iff.mp hj).1
      refine wpAny_mono (asg.run [] s6 _ _ { nx := fun σ2 H2 => σ2 = (σ'.set j (some (.ref a))).set i (some (.ref a)) /\ H2 = upd H' a (exH a (cls c) d'), rt := fun _ _ => False } S6 ⟨.ref a, List.getElem?_set_self hjl, rfl, rfl⟩) (fun f7 s7 hsp => ?_) (fun _ _ z => False.elim z)
      cases f7 with
      | brk => obtain ⟨_, _, _, q⟩ := hsp; exact q.elim
      | cont => obtain ⟨_, _, _, q⟩ := hsp; exact q.elim
      | ret u => obtain ⟨_, _, _, _, _, q⟩ := hsp; exact q.elim
      | next =>
        obtain ⟨σ7, H7, S7, rfl, rfl⟩ := hsp
        have J7 : Inv X pins ((σ'.set j (some (.ref a))).set i (some (.ref a))) (upd H' a (exH a (cls c) d')) s7 :=
          ⟨ok, S7.os, S7.bare, S7.base, S7.loc, S7.cell, S7.free, S7.freeC, fun p hp => S7.pin p (by rw [List.append_nil]; exact hp), S7.hok, S7.len⟩
        refine gone_ok J7 hN hj hln fun s8 J8 => ⟨_, _, J8, ?_⟩
        have eσ : ((σ'.set j (some (V.ref a))).set i (some (.ref a))).set j none = (σ'.set j none).set i (some (.ref a)) := by
          rw [set_swap hij, List.set_set]
        rw [eσ]
        have nga : G1 a = none := r1.hst.nog na
        have rS := (r1.unset j)
        have nH2 : upd H' a (exH a (cls c) d') a = some (exH a (cls c) d') := upd_same
        have rF : Rst X.kx cls own G1 al1 ⟨m1.sl.set j none, m1.st⟩ (σ'.set j none) (upd H' a (exH a (cls c) d')) := rS.fresh na
        obtain ⟨evs, rG⟩ := rF.share (ob := .exc c fs) nH2 nga ⟨d', rfl, hxf⟩
        have dva : DV X.kx (Zof (putG G1 a (.st m1.st.length) (exH a (cls c) d'))) (al1 ++ [a]) (.ref a) (.obj m1.st.length) := .obj (by rw [<- r1.hst.len, List.getElem?_append_right (Nat.le_refl _)]; simp)
        exact K0 _ _ _ _ (ev1.trans evs) (rG.set dva oi)
  · cases fb with
    | next =>
      obtain ⟨σ2, H2, J2, q⟩ := hsp
      exact wpAny_execs_nil ⟨σ2, H2, J2.ofTry ok, q⟩
    | brk =>
      obtain ⟨σ2, H2, J2, q⟩ := hsp
      exact ⟨σ2, H2, J2.ofTry ok, q⟩
    | cont =>
      obtain ⟨σ2, H2, J2, q⟩ := hsp
      exact ⟨σ2, H2, J2.ofTry ok, q⟩
    | ret u =>
      obtain ⟨v, σ2, H2, J2, rr, q⟩ := hsp
      exact ⟨v, σ2, H2, J2.ofTry ok, rr, q⟩
theorem ss_try2 (hs : X.stack = X.env :: X.outer) (hf : X.env.frame = some X.env.locals) (hN : X.N.Nodup) (hj : X.N[j]? = some n) (hi : X.N[i]? = some cv) (hij : i ≠ j) (hln : X.env.kindOf n = some .local) (hlc : X.env.kindOf cv = some .local)
    (hn2 : X.env.scope.names.lookup n = some .local) (hc2 : X.env.scope.names.lookup cv = some .local) (oi : own i = false) (nA : Names X A cA) (nB : Names X B cB) (hx : ∀ c ∈ xs, PySem.W.exmAny X.K (.ref (cls c)) [cA, cB] = some true)
    (hb : ∀ (pn : List (Addr × Obj)) (xe : Value -> Shared -> Prop), SSs cls own (X.tr pn xe) body f) (hv : Vis X.env.scope n) (hex : X.ex = [] := by rfl)
    (hsw : swapsWith (.Name n q2) (some (.Name cv q1)) q3.line X.env = pure false := by rfl) (hdn : (n == ("__debug__" : Str)) = false := by decide) (hdc : (n == ("__classdict__" : Str)) = false := by decide) :
    SS cls own X (.Try body [.ExceptHandler (some (.Tuple [.Name A p1, .Name B p2] kk tp)) (some n) [.Assign [.Name cv q1] (.Name n q2) q3] pos'] [] [] pos) (sTry2 xs i j f) := by
  have hb2 : ∀ (pn : List (Addr × Obj)) (xe : Value -> Shared -> Prop), PSs (X.tr pn xe) body (tSJ (fun _ _ => True) (X.tr pn xe) cls own f) := fun pn xe => by
    refine pss_imp (hb pn xe) fun E σ H q => ?_
    obtain ⟨G, al, m, fl, m', r, _, e, k⟩ := q
    exact ⟨G, al, m, fl, m', r, e, k⟩
  refine ps_imp (t := tSJ (fun _ _ => True) X cls own (sTry2 xs i j f)) (ss_try2J hs hf hN hj hi hij hln hlc hn2 hc2 oi nA nB hx hb2 hv hex hsw hdn hdc) fun E σ H q => ?_
  obtain ⟨G, al, m, fl, m', r, e, k⟩ := q
  exact ⟨G, al, m, fl, m', r, True.intro, e, k⟩
end
end MI
namespace MI
open PySem PySem.Spec L2 PyProof.Rows
section
variable {X : Cx} {pins : List (Addr × Obj)} {σ : L2.St} {H Z : Hp} {s : Shared} {al : List Addr} {a C : Addr} {d : Option Addr} {fs : List (Str × D)}
def XD (H : Hp) (d : Option Addr) : Prop := d = none \/ ∃ dx fvs, d = some dx /\ H dx = some (.xd fvs)
theorem xd_of {K : KX} (zh : Same Z H) (h : XFz K Z al d fs) : XD H d := by
  rcases h with ⟨_, h⟩ | ⟨dx, fvs, h, z, _⟩
  · exact .inl h
  · exact .inr ⟨dx, fvs, h, zh _ _ z⟩
theorem exc_inst (I : Inv X pins σ H s) (ha : H a = some (exH a C d)) (hx : XD H d) : ∃ oe od, PySem.W.InstAt s.heap a oe C od := by
  obtain ⟨⟨oe, vs, e, hc, hd, hv⟩, _⟩ := I.hok a _ ha
  rcases hx with rfl | ⟨dx, fvs, rfl, hdx⟩
  · exact ⟨oe, none, e, hc, by unfold PySem.W.notCls; rw [hv] <;> rfl, by rw [hd]; trivial⟩
  · have q : ObjOk X.prog X.w H s.heap dx (.xd fvs) := I.hok dx _ hdx
    obtain ⟨mA, hns, hr⟩ := q
    obtain ⟨od, ho, hl⟩ := lookIn_ns hns
    exact ⟨oe, some od, e, hc, by unfold PySem.W.notCls; rw [hv] <;> rfl, by rw [hd]; exact ho⟩
theorem exc_field {f : Str} {dv : D} (T : ExcC X.K C) (I : Inv X pins σ H s) (zh : Same Z H) (ha : H a = some (exH a C d)) (hx : XFz X.kx Z al d fs) (hl : fs.lookup f = some dv) (no : PySem.W.findIn X.K (.ref C) f = some none) :
    ∃ oe od v u, PySem.W.InstAt s.heap a oe C od /\ DV X.kx Z al v dv /\ RelV v u /\ PySem.W.findObj X.K C od f = some (.value u) := by
  obtain ⟨⟨oe, vs, e, hc, hd, hv⟩, _⟩ := I.hok a _ ha
  rcases hx with ⟨rfl, _⟩ | ⟨dx, fvs, rfl, hdx, k1, k2⟩
  · cases hl
  · have q : ObjOk X.prog X.w H s.heap dx (.xd fvs) := I.hok dx _ (zh _ _ hdx)
    obtain ⟨mA, hns, hr⟩ := q
    obtain ⟨od, ho, hlk⟩ := lookIn_ns hns
    obtain ⟨v, lv, dvv⟩ := fld_get k1 k2 hl
    obtain ⟨u, hu, ru⟩ := RelO.some_of (v := v) (o := mA f) (by rw [<- lv]; exact hr f)
    exact ⟨oe, some od, v, u, ⟨e, hc, by unfold PySem.W.notCls; rw [hv] <;> rfl, by rw [hd]; exact ho⟩, dvv, ru, PySem.W.findObj_own T.hd no rfl (by rw [hlk, hu])⟩
def rIsX (K : PySem.W.Frag) : List V -> Hp -> VK -> Prop := fun xs H Q => ∃ (x c : V) (cv : Value) (b : Bool), xs = [x, c] /\ ClsV c cv /\ Q (.bl b) H /\
  ((x = .non /\ PySem.W.kitOne K (.type "NoneType") cv = some b) \/ ∃ (a C : Addr) (d : Option Addr), x = .ref a /\ H a = some (exH a C d) /\ XD H d /\ ExcC K C /\ PySem.W.kitOne K (.ref C) cv = some b)
theorem exc_cls {K : PySem.W.Frag} (T : ExcC K C) : (PySem.W.clsIn K C).isSome = true := by
  obtain ⟨cd, hc, _⟩ := PySem.W.any_some T.hd
  rw [hc]
  rfl
theorem call_isX : CallR X (.builtin "isinstance") (rIsX X.K) := by
  intro pins s σ H xs us Q I r h
  obtain ⟨x, c, cv, b, rfl, k, q, h⟩ := h
  obtain ⟨u1, u2, rfl, r1, r2⟩ := vals2 r
  have e2 := k.eq r2
  subst e2
  rcases h with ⟨rfl, e⟩ | ⟨a, C, d, rfl, ha, hx, T, e⟩
  · cases (show u1 = Value.none from r1)
    exact PySem.W.kia_one PySem.W.kitx_none I.kIn True.intro e (fun z => nomatch z) fun tk => ⟨.bl b, H, I.tok tk, rfl, q⟩
  · cases (show u1 = Value.ref a from r1)
    obtain ⟨oe, od, J⟩ := exc_inst I ha hx
    exact PySem.W.kia_one (PySem.W.kitx_exc (exc_cls T) T.hg T.hk T.hs T.ha T.hn T.ht T.hm) I.kIn J e (fun z => nomatch z) fun tk => ⟨.bl b, H, I.tok tk, rfl, q⟩
end
theorem lk_mem {α β : Type} [BEq α] [LawfulBEq α] {k : α} {v : β} : ∀ {l : List (α × β)}, l.lookup k = some v -> (k, v) ∈ l
  | [], h => by cases h
  | (k', v') :: l, h => by
    rw [List.lookup_cons] at h
    split at h
    · next e =>
      cases h
      rw [eq_of_beq e]
      exact List.mem_cons_self
    · exact List.mem_cons_of_mem _ (lk_mem h)
def excOf (d : D) (m : MS) : Option (Nat × List (Str × D)) := match d with
  | .obj n => match m.st[n]? with
    | some (.exc c fs) => some (c, fs)
    | _ => none
  | _ => none
def eIsx (tab : List (Nat × Bool)) (f : Den D) : Den D := f.bind fun d => fun m => match d with
  | .non => .ok (.bl false) m
  | d => match excOf d m with
    | some (c, _) => match tab.lookup c with
      | some b => .ok (.bl b) m
      | none => .bad
    | none => .bad
def eXf (xs : List Nat) (nm : Str) (f : Den D) : Den D := f.bind fun d => fun m => match excOf d m with
  | some (c, fs) => if c ∈ xs then match fs.lookup nm with
    | some v => .ok v m
    | none => .bad else .bad
  | none => .bad
section
variable {K : KX} {cls : Nat -> Addr} {own : Nat -> Bool} {G : Gh} {al : List Addr} {m : MS} {σ : L2.St} {H : Hp}
theorem excOf_ok {d : D} {v : V} {c : Nat} {fs : List (Str × D)} (r : Rst K cls own G al m σ H) (e : excOf d m = some (c, fs)) (dv : DV K (Zof G) al v d) : ∃ a dd, v = .ref a /\ H a = some (exH a (cls c) dd) /\ XFz K (Zof G) al dd fs := by
  unfold excOf at e
  split at e
  case h_2 => cases e
  next n =>
  split at e
  case h_2 => cases e
  next c' fs' hn =>
  cases e
  cases dv with
  | @obj _ a q =>
    obtain ⟨a', q', o, g, dd, ho, hx⟩ := r.hst.sto n _ hn
    rw [q] at q'
    cases q'
    subst ho
    exact ⟨a, dd, rfl, r.hst.gh _ _ _ g, hx⟩
end
section
variable {cls : Nat -> Addr} {own : Nat -> Bool} {X : Cx} {x : Str} {p p2 pos : Pos} {a : Expr} {fa : Den D} {tab : List (Nat × Bool)} {c : V} {cv : Value} {cs : List V} {us : List Value} {es : List Expr} {kk : Nat}
theorem pe_names (nT : Names X x cv) (k : ClsV c cv) : PE X (.Name x pos) (tC c) := by
  refine ⟨fun pins s σ H Q I h => ?_⟩
  have rl : RelV c cv := by cases k <;> rfl
  obtain ⟨hg, hd, hm | ⟨hm, hv, hn⟩⟩ := nT
  · exact ld_glob I hg hm ⟨c, H, I, rl, h⟩ hd
  · exact ld_blt I hg hm hv ⟨c, H, I, rl, h⟩ hn hd
theorem se_isx (nT : Names X x cv) (k : ClsV c cv) (hN : PySem.W.kitOne X.K (.type "NoneType") cv = some false) (ht : ∀ q ∈ tab, ExcC X.K (cls q.1) /\ PySem.W.kitOne X.K (.ref (cls q.1)) cv = some q.2)
    (hg1 : Gl X "isinstance") (hm1 : X.mg "isinstance" = none) (ha : SE cls own X a fa)
    (s1 : starEach [a, .Name x p2] X.env = (false, eval a X.env) :: starEach [.Name x p2] X.env := by rfl) (s2 : starEach [.Name x p2] X.env = (false, eval (.Name x p2) X.env) :: starEach [] X.env := by rfl)
    (q1 : (backTo pos (starEach [.Name x p2] X.env)).any (·.1) = false := by rfl) :
    SE cls own X (.Call (.Name "isinstance" p) [a, .Name x p2] [] pos) (eIsx tab fa) := by
  refine pe_imp (pe_callB call_isX hg1 hm1 bt_isi (pa_cons ha (pa_cons (pe_names nT k) pa_nil s2) s1) (by decide) (by decide) s1 q1) fun σ H Q q => ?_
  obtain ⟨G, al, m, d, m', r, e, kk⟩ := q
  obtain ⟨d1, m1, e1, e⟩ := bind_ok e
  refine ⟨G, al, m, d1, m1, r, e1, fun G1 al1 v H1 ev1 r1 dv => ?_⟩
  split at e
  · cases e
    cases dv
    exact ⟨.non, c, cv, false, rfl, k, kk G1 al1 _ H1 ev1 r1 (.bl _), .inl ⟨rfl, hN⟩⟩
  · split at e
    case h_2 => cases e
    next c' fs ex =>
    split at e
    case h_2 => cases e
    next b hb =>
    cases e
    obtain ⟨T, kt⟩ := ht (c', b) (lk_mem hb)
    obtain ⟨ad, dd, rfl, hh, hx⟩ := excOf_ok r1 ex dv
    exact ⟨.ref ad, c, cv, b, rfl, k, kk G1 al1 _ H1 ev1 r1 (.bl _), .inr ⟨ad, cls c', dd, rfl, hh, xd_of r1.zh hx, T, kt⟩⟩
theorem se_xf {nm : Str} {xs : List Nat} (hx : ∀ c ∈ xs, ExcC X.K (cls c) /\ PySem.W.findIn X.K (.ref (cls c)) nm = some none) (ha : SE cls own X a fa) (hb : attributeBase a nm X.env (eval a X.env) = eval a X.env := by rfl) :
    SE cls own X (.Attribute a nm pos) (eXf xs nm fa) := by
  refine ⟨fun pins s σ H Q I h => ?_⟩
  obtain ⟨G, al, m, d, m', r, e, k⟩ := h
  obtain ⟨d1, m1, e1, e⟩ := bind_ok e
  split at e
  case h_2 => cases e
  next c fs ex =>
  split at e
  case isFalse => cases e
  next hc =>
  split at e
  case h_2 => cases e
  next w hw =>
  cases e
  refine attr_of hb (thn (ha.run pins s σ H (fun v H1 => ∃ G1 al1, Ev G al G1 al1 /\ Rst X.kx cls own G1 al1 m' σ H1 /\ DV X.kx (Zof G1) al1 v d1) I ⟨G, al, m, d1, m', r, e1, fun G1 al1 v H1 ev1 r1 dv => ⟨G1, al1, ev1, r1, dv⟩⟩) fun u s1 ⟨v, H1, I1, rv, G1, al1, ev1, r1, dv⟩ => ?_)
  obtain ⟨ad, dd, rfl, hh, hxf⟩ := excOf_ok r1 ex dv
  cases (show u = Value.ref ad from rv)
  obtain ⟨T, no⟩ := hx c hc
  obtain ⟨oe, od, v2, u2, J, dv2, ru, fo⟩ := exc_field T I1 r1.zh hh hxf hw no
  exact HandSPX.exc_get I1.kIn J T.hg T.hk T.hs fo (handed_of ru) ⟨v2, H1, I1.tok _, ru, k G1 al1 v2 H1 ev1 r1 dv2⟩
end
structure FSX (f : FnX) (ds : List D) (st : Sto) (P : Xr -> Sto -> Prop) : Prop where
  ex : ∃ d st', f ds st = some (d, st') /\ P d st'
def noX (f : FnX) : Fn := fun ds st => match f ds st with
  | some (.inl d, st') => some (d, st')
  | _ => none
section
variable {m : MS} {Q : D -> MS -> Prop} {QF : Fl -> MS -> Prop} {QX : Xr -> MS -> Prop} {c i j : Nat} {nm : Str}
theorem FSX.mono {f : FnX} {ds : List D} {st : Sto} {P P' : Xr -> Sto -> Prop} (h : FSX f ds st P) (i : ∀ d st', P d st' -> P' d st') : FSX f ds st P' := by
  obtain ⟨a, m', e, q⟩ := h
  exact ⟨a, m', e, i a m' q⟩
theorem fs_noX {f : FnX} {ds : List D} {st : Sto} {P : D -> Sto -> Prop} (h : FSX f ds st fun r st' => ∃ d, r = .inl d /\ P d st') : FS (noX f) ds st P := by
  obtain ⟨r, st', e, d, rfl, q⟩ := h
  refine ⟨d, st', ?_, q⟩
  unfold noX
  rw [e]
theorem fsx_run {n : Nat} {body : Den Fl} {ds : List D} {st : Sto} {P : Xr -> Sto -> Prop}
    (h : W body ⟨ds.map some ++ List.replicate (n - ds.length) none, st⟩ fun fl m => match fl with | .rt d => P (.inl d) m.st | .nx => P (.inl .non) m.st | .xc c fs => P (.inr (c, fs)) m.st | _ => False) : FSX (runFnX n body) ds st P := by
  obtain ⟨fl, m, e, q⟩ := h
  refine ⟨?_⟩
  unfold runFnX
  rw [e]
  cases fl with
  | nx => exact ⟨_, _, rfl, q⟩
  | rt d => exact ⟨_, _, rfl, q⟩
  | xc c fs => exact ⟨_, _, rfl, q⟩
  | bk => exact q.elim
  | ct => exact q.elim
theorem w_isx {tab : List (Nat × Bool)} {f : Den D} (h : W f m fun d m1 => (d = .non /\ Q (.bl false) m1) \/ ∃ n c fs b, d = .obj n /\ m1.st[n]? = some (.exc c fs) /\ tab.lookup c = some b /\ Q (.bl b) m1) : W (eIsx tab f) m Q := by
  refine w_bind (h.mono fun d m1 q => ?_)
  rcases q with ⟨rfl, q⟩ | ⟨n, c, fs, b, rfl, e1, e2, q⟩
  · exact ⟨_, m1, rfl, q⟩
  · refine ⟨_, m1, ?_, q⟩
    simp only [excOf, e1, e2]
theorem w_xf {xs : List Nat} {f : Den D} (h : W f m fun d m1 => ∃ n c fs v, d = .obj n /\ m1.st[n]? = some (.exc c fs) /\ c ∈ xs /\ fs.lookup nm = some v /\ Q v m1) : W (eXf xs nm f) m Q := by
  refine w_bind (h.mono fun d m1 ⟨n, c, fs, v, ed, e1, e2, e3, q⟩ => ?_)
  subst ed
  refine ⟨_, m1, ?_, q⟩
  simp only [excOf, e1, if_pos e2, e3]
theorem w_try2 {xs : List Nat} {f : Den Fl} (h : W f m fun fl m1 => match fl with | .xc c fs => c ∈ xs /\ QF .nx ⟨(m1.sl.set j none).set i (some (.obj m1.st.length)), m1.st ++ [.exc c fs]⟩ | fl => QF fl m1) : W (sTry2 xs i j f) m QF := by
  refine w_bind (h.mono fun fl m1 q => ?_)
  cases fl with
  | nx => exact ⟨_, m1, rfl, q⟩
  | rt d => exact ⟨_, m1, rfl, q⟩
  | bk => exact ⟨_, m1, rfl, q⟩
  | ct => exact ⟨_, m1, rfl, q⟩
  | xc c fs => exact ⟨_, _, if_pos q.1, q.2⟩
end
section
variable {P : Program} {w : World} {K : PySem.W.Frag} {mg : Str -> Option Value} {base : Heap} {cls : Nat -> Addr} {f : Addr} {fd : FuncData} {ps : List Str} {k c : Nat} {fn : FnX} {m : Str}
theorem FnGX.no (F : FnGX P w K mg base k f fd ps (SpX ⟨K, P, w⟩ cls ps.length fn)) : FnG P w K mg base k f fd ps (SpD ⟨K, P, w⟩ cls ps.length (noX fn)) := by
  have cut : ∀ {vs : List V} {H : Hp} {Q : VK} {E : XK}, SpD ⟨K, P, w⟩ cls ps.length (noX fn) vs H Q E -> SpX ⟨K, P, w⟩ cls ps.length fn vs H Q L2.E0 := fun {vs H Q E} ⟨hl, G, al, ds, st, d, st', hst, dv, e, k⟩ => by
    unfold noX at e
    split at e
    case h_2 => cases e
    next d' st'' e2 =>
    cases e
    exact ⟨hl, G, al, ds, st, .inl _, _, hst, dv, e2, k⟩
  refine ⟨fun vs H Q E h => F.len vs H Q _ (cut h), fun A out s H ar us vs Q E room gd env bt rel h => ?_⟩
  refine codeAny_mono (F.go A out s H ar us vs Q L2.E0 room gd env bt rel (cut h)) fun res s' hq => ?_
  cases res with
  | error ex =>
    obtain ⟨_, _, _, _, _, _, _, _, _, _, _, _, q⟩ := hq
    exact q.elim
  | ok fl => cases fl <;> exact hq
end
end MI
namespace MI
open PySem PySem.Spec L2 PyProof.Rows
section
variable {K : PySem.W.Frag} {C fI : Addr} {f : Str}
theorem veB_ok (h : veB K C = true) : ∃ nm q N bs bm sn sub ab col dd k0 k1 k2 k3 k5, K.lookup C = some (excClassObj nm q C N bs bm true sn sub ab col dd k0 k1 k2 k3 k5 "ValueError.__new__") /\ HandSPX.refsVE bm = true := by
  unfold veB at h
  split at h
  case h_2 => cases h
  next dd cd sl ho =>
  split at h
  case h_2 => cases h
  next D r l0 l1 l2 l3 z l5 hm hs =>
  simp only [Bool.and_eq_true, decide_eq_true_eq, Bool.not_eq_true'] at h
  obtain ⟨rfl, rfl, a1, a2, a3⟩ := h
  obtain ⟨c1, c2, c3, c4, c5, c6, c7, c8, c9, c10, c11⟩ := cd
  dsimp only at hm a1 a2
  subst hm a1 a2
  have e : sl = #[l0, l1, l2, l3, some (.builtin "ValueError.__new__"), l5] := by
    obtain ⟨sl⟩ := sl
    simp only at hs
    rw [hs]
  subst e
  exact ⟨_, _, _, _, r, _, _, _, _, _, _, _, _, _, _, ho, a3⟩
theorem excB_ok (h : excB K C = true) : ExcC K C := by
  simp only [excB, Bool.and_eq_true, decide_eq_true_eq] at h
  obtain ⟨h0, h1, h2, h3, h4⟩ := h
  have x := xfB_ok h0
  exact ⟨x.ga, x.gg, x.exC, x.hdC, h1, h2, h3, h4⟩
theorem riB_ok (h : riB K C = true) : RI K C "ValueError.__init__" := by
  simp only [riB, Bool.and_eq_true, decide_eq_true_eq] at h
  obtain ⟨h1, h2, h3⟩ := h
  refine ⟨h1, h2, ?_, by decide +kernel⟩
  split at h3
  · next z e =>
    have e2 : z = "ValueError.__init__" := of_decide_eq_true h3
    rw [e, e2]
  · cases h3
structure ExfC (K : PySem.W.Frag) (C fI : Addr) (f : Str) : Prop where
  T : OexC K C
  iC : PySem.W.findIn K (.ref C) "__init__" = some (some (.ref fI))
  tI : PySem.W.typeIn K (.ref fI) = some (.type "function")
  no : PySem.W.findIn K (.ref C) f = some none
  xi : XcI K C "ValueError.__init__"
theorem exfB_ok (h : exfB K C fI f = true) : ExfC K C fI f := by
  simp only [exfB, Bool.and_eq_true, decide_eq_true_eq] at h
  obtain ⟨h1, h2, h3, h4, h5, h6, h7, h8, h9⟩ := h
  exact ⟨⟨veB_ok h1, He.eqO_ok h2, h3, h4, h5⟩, He.eqO_ok h6, h7, He.eqO_ok h8, ⟨_, _, _, PySem.F.excBase_ValueError, h9⟩⟩
structure IsC (K : PySem.W.Frag) (cls : Nat -> Addr) (tab : List (Nat × Bool)) (cv : Value) : Prop where
  n : PySem.W.kitOne K (.type "NoneType") cv = some false
  t : ∀ q ∈ tab, PySem.W.kitOne K (.ref (cls q.1)) cv = some q.2
structure IsTC (K : PySem.W.Frag) (cls : Nat -> Addr) (tab : List (Nat × Bool)) (us : List Value) : Prop where
  n : PySem.W.kitAny K (.type "NoneType") us = some false
  t : ∀ q ∈ tab, PySem.W.kitAny K (.ref (cls q.1)) us = some q.2
theorem isB_ok {cls : Nat -> Addr} {tab : List (Nat × Bool)} {cv : Value} (h : isB K cls tab cv = true) : IsC K cls tab cv := by
  simp only [isB, Bool.and_eq_true, decide_eq_true_eq, List.all_eq_true] at h
  exact ⟨h.1, h.2⟩
theorem cxB_ok {cls : Nat -> Addr} {xs : List Nat} {us : List Value} (h : cxB K cls xs us = true) : ∀ c ∈ xs, PySem.W.exmAny K (.ref (cls c)) us = some true := by
  simp only [cxB, decide_eq_true_eq, List.all_eq_true] at h
  exact h
theorem xb_ok {l : List Bool} (h : l.all id = true) (i : Nat) {b : Bool} (e : l[i]? = some b := by rfl) : b = true := List.all_eq_true.mp h b (List.mem_of_getElem? e)
end
end MI
namespace MI
open PySem PySem.Spec L2
theorem xca_ok {K : PySem.W.Frag} {cls : Nat -> Addr} {l : List Nat} (h : (l.all fun c => excB K (cls c)) = true) : ∀ c ∈ l, ExcC K (cls c) := fun c hc => excB_ok (List.all_eq_true.mp h c hc)
theorem xfs_ok {K : PySem.W.Frag} {cls : Nat -> Addr} {l : List Nat} {f : Str} (h : (l.all fun c => excB K (cls c) && decide (PySem.W.findIn K (.ref (cls c)) f = some none)) = true) : ∀ c ∈ l, ExcC K (cls c) /\ PySem.W.findIn K (.ref (cls c)) f = some none := fun c hc => by
  have q := List.all_eq_true.mp h c hc
  simp only [Bool.and_eq_true, decide_eq_true_eq] at q
  exact ⟨excB_ok q.1, q.2⟩
def goneX : O -> O
  | .exc _ _ => .gone
  | o => o
def dForget (f : Den Fl) : Den Fl := fun m => match f m with
  | .ok fl m' => .ok fl ⟨m'.sl, m'.st.take m.st.length ++ (m'.st.drop m.st.length).map goneX⟩
  | .bad => .bad
section
variable {K : KX} {cls : Nat -> Addr} {own : Nat -> Bool} {G : Gh} {al : List Addr} {m : MS} {σ : L2.St} {H : Hp} {X : Cx} {body : List Stmt} {f : Den Fl}
theorem forget_at {st : Sto} {n k : Nat} : (st.take n ++ (st.drop n).map goneX)[k]? = (st[k]?).map fun o => if k < n then o else goneX o := by
  by_cases h : k < n
  · by_cases h2 : k < st.length
    · rw [List.getElem?_append_left (by rw [List.length_take]; omega), List.getElem?_take_of_lt h]
      simp [h]
    · rw [List.getElem?_eq_none (by simp; omega), List.getElem?_eq_none (by omega)]
      rfl
  · by_cases h2 : n <= st.length
    · rw [List.getElem?_append_right (by rw [List.length_take]; omega), List.length_take, Nat.min_eq_left h2, List.getElem?_map, List.getElem?_drop, show n + (k - n) = k by omega]
      simp [h]
    · rw [List.getElem?_eq_none (by simp; omega), List.getElem?_eq_none (by omega)]
      rfl
theorem Rst.forget (r : Rst K cls own G al m σ H) (n : Nat) : Rst K cls own G al ⟨m.sl, m.st.take n ++ (m.st.drop n).map goneX⟩ σ H := by
  refine ⟨⟨r.hst.gh, ?_, fun k o e hg => ?_⟩, r.len, r.val, r.own⟩
  · rw [r.hst.len]
    simp
    omega
  · have e : (m.st.take n ++ (m.st.drop n).map goneX)[k]? = some o := e
    rw [forget_at, Option.map_eq_some_iff] at e
    obtain ⟨o', e1, e2⟩ := e
    have : o = o' := by
      split at e2
      · exact e2.symm
      · cases o' with
        | exc c fs => exact absurd e2.symm hg
        | _ => exact e2.symm
    rw [this] at hg ⊢
    exact r.hst.sto k o' e1 hg
theorem ss_forget (h : SSs cls own X body f) : SSs cls own X body (dForget f) := pss_imp h fun E σ H ⟨G, al, m, fl, m', r, e, k⟩ => by
  unfold dForget at e
  split at e
  case h_2 => cases e
  next fl1 m1 e1 =>
  cases e
  exact ⟨G, al, m, fl, m1, r, e1, fun G1 al1 σ1 H1 ev1 r1 => k G1 al1 σ1 H1 ev1 (r1.forget _)⟩
theorem w_forget {m : MS} {Q : Fl -> MS -> Prop} (h : W f m fun fl m1 => Q fl ⟨m1.sl, m1.st.take m.st.length ++ (m1.st.drop m.st.length).map goneX⟩) : W (dForget f) m Q := by
  obtain ⟨fl, m1, e, q⟩ := h
  refine ⟨fl, _, ?_, q⟩
  unfold dForget
  rw [e]
end
end MI
namespace MI
open PySem PySem.Spec L2
end MI
namespace MI
open PySem PySem.Spec L2
def famI : Bool -> String
  | true => "ValueError.__init__"
  | false => "LookupError.__init__"
section
variable {K : PySem.W.Frag} {C fI : Addr} {b : Bool}
structure Ex0C (K : PySem.W.Frag) (b : Bool) (C fI : Addr) : Prop where
  xi : XcI K C (famI b)
  kC : PySem.W.keepIn K (.ref C) = true
  exC : PySem.W.subIn K (.ref C) (.type "BaseException") = some true
  tyC : PySem.W.typeIn K (.ref C) = some (.type "type")
  iC : PySem.W.findIn K (.ref C) "__init__" = some (some (.ref fI))
  tI : PySem.W.typeIn K (.ref fI) = some (.type "function")
end
end MI
namespace MI
open PySem PySem.Spec L2
end MI
namespace MI
open PySem PySem.Spec L2
end MI
namespace MI
open PySem PySem.Spec L2
end MI
namespace MI
open PySem PySem.Spec L2
end MI
namespace MI
open PySem PySem.Spec L2
def rCatS : R2 := fun x y H Q => ∃ i j : Str, x = .str i /\ y = .str j /\ i.length + j.length <= sizeLine /\ Q (.str (i ++ j)) H
def rRI : List V -> Hp -> VK -> Prop := fun xs H Q => ∃ i : Int, xs = [.int i] /\ i.natAbs.log2 < 1920 /\ Q (.str (toString i)) H
def tZr (z : Str) : TE := L2.tOp rCatS (tC (.str z)) (tCB rRI (tCons (tVar 1) tNil))
theorem zr_ok {z : Str} (hz : z.length <= 1000) {σ : St} {H : Hp} {Q : VK} {i : Int} (h : σ[1]? = some (some (.int i))) (hb : i.natAbs.log2 < 1920) (q : ∀ y : Str, Q (.str y) H) : tZr z σ H Q := by
  have h1 : (Str.ofString (toString i)).length <= 1921 := PyProof.Rows.int_text_len_1921 hb
  exact ⟨.int i, h, i, rfl, hb, z, _, rfl, rfl, by rw [sizeLine_eq]; omega, q _⟩
def spI (C : Addr) (f : Str) : Sp := fun vs H Q _ => ∃ (a : Addr) (i : Int), vs = [.ref a, .int i] /\ i.natAbs.log2 < 1920 /\ H a = some (exo a C none) /\ ∀ dx, H dx = none -> dx ≠ a -> Q .non (upd (upd H dx (exd dx [(f, .int i)])) a (exo a C (some dx)))
section
variable {P : Program} {w : World} {K : PySem.W.Frag} {mg : Str -> Option Value} {base : Heap} {x qual : Str} {params : Arguments} {body : List Stmt} {scope : Scope} {dvs : List V} {kws : List (Str × V)} {fI C : Addr} {fd : FuncData} {N : List Str} {k : Nat}
theorem initI_ok {sl al f z : Str} {initId : String} (hz : z.length <= 1000) (F : FunD K x qual params body scope dvs kws fI fd) (S : FnScope N [sl, al] scope) (T : XcI K C initId) (TO : OexC K C) (no : PySem.W.findIn K (.ref C) f = some none)
    (hb : ∀ (cdv : Value) (A : Around) (outer : List Env) (s : Shared) (H : Hp) (E : XK), PSs (cxOf CX0 P w K mg base N qual scope fI cdv A outer s H E) body (tSeq (tDrop (tXi K initId (tCons (tVar 0) (tCons (tZr z) tNil)))) (tOst K f (tVar 0) (tVar 1)))) :
    FnOk P w K mg base CX0 (k + 1) fI fd [sl, al] (spI C f) := by
  refine F.ok S (fun vs H Q E h => ?_) fun cdv A outer s H vs Q E hr h => ⟨_, hb cdv A outer s H E, ?_⟩
  · obtain ⟨a, v, rfl, _⟩ := h; rfl
  · obtain ⟨a, i, rfl, hi, ea, q⟩ := h
    exact ⟨.ref a, rfl, zr_ok hz rfl hi fun y => ⟨a, C, [.str y], rfl, by simp, T, ea, .int i, rfl, .ref a, rfl, a, C, rfl, TO, no, .inl ⟨ea, q⟩⟩⟩
end
structure ExI (P : Program) (w : World) (K : PySem.W.Frag) (mg : Str -> Option Value) (base : Heap) (k : Nat) (x : Str) (C : Addr) (f : Str) : Prop where
  ex : ∃ (fI : Addr) (fd : FuncData) (sl al : Str), FnOk P w K mg base CX0 k fI fd [sl, al] (spI C f) /\ Binds K fd [sl, al] [] /\ PySem.W.findIn K (.ref C) "__init__" = some (some (.ref fI)) /\ PySem.W.typeIn K (.ref fI) = some (.type "function")
  T : OexC K C
  gl : mg x = some (.ref C)
def sRaiseI (c : Nat) (f : Str) (fs : Den (List D)) : Den Fl := fs.bind fun ds => fun m => match ds with
  | [.int i] => if i.natAbs.log2 < 1920 then .ok (.xc c [(f, .int i)]) m else .bad
  | _ => .bad
section
variable {cls : Nat -> Addr} {own : Nat -> Bool} {X : Cx} {x f : Str} {c k j : Nat} {p pos pos2 : Pos} {e : Expr} {fs : Den (List Hd)}
theorem ss_raiseI (T : ExI X.prog X.w X.K X.mg X.base j x (cls c) f) (hr : Room k X.A) (hc : X.calm = true) (ha : SHs cls own X [e] fs) (hjk : j + 1 <= k := by decide) (hg : Gl X x := by rfl) (hdb : (x == ("__debug__" : Str)) = false := by decide)
    (he : starEach [e] X.env = (false, eval e X.env) :: starEach [] X.env := by rfl) (hpl : (backTo pos (starEach [] X.env)).any (·.1) = false := by rfl) :
    SS cls own X (.Raise (some (.Call (.Name x p) [e] [] pos)) none pos2) (sRaiseI c f (aVals fs)) := by
  obtain ⟨fI, fd, sl, al0, F1, hb, iC, tI⟩ := T.ex
  refine ps_imp (ps_raise hc wx_takes (pmk_oex (dvs := []) (ds := []) T.T iC tI F1 (hr.mono hjk) hb .nil (pass0 (X := X)) hg T.gl ha hdb he hpl)) fun E σ H q => ?_
  obtain ⟨G, al, m, fl, m', r, ev, kk⟩ := q
  obtain ⟨ds, m1, e1, ev⟩ := bind_ok ev
  obtain ⟨hs, e2, l⟩ := aVals_ok e1
  split at ev
  case h_2 => cases ev
  next i =>
  split at ev
  case isFalse => cases ev
  next hi =>
  cases ev
  refine ⟨G, al, m, hs, _, r, e2, fun G1 al1 vs H1 ev1 r1 hv1 => ?_⟩
  have dv := looksV_dv hv1 l
  cases dv with
  | @cons v _ _ _ d1 d2 =>
    cases d2
    obtain rfl : v = .int i := by cases d1; rfl
    refine ⟨by simp, fun a na => ⟨a, i, rfl, hi, upd_same, fun dx nx ne => ?_⟩⟩
    have nx1 : H1 dx = none := by rwa [upd_ne ne] at nx
    refine ⟨rfl, dx, [(f, .int i)], upd_same, by rw [upd_ne ne, upd_same], nx1, ?_⟩
    have eH : upd (del (upd (upd (upd H1 a (exo a (cls c) none)) dx (exd dx [(f, .int i)])) a (exo a (cls c) (some dx))) a) dx (.xd [(f, .int i)]) = upd H1 dx (.xd [(f, .int i)]) := funext fun b => by
      by_cases hb : b = dx
      · rw [hb, upd_same, upd_same]
      · rw [upd_ne hb, upd_ne hb]
        by_cases hba : b = a
        · rw [hba, del_same, na]
        · rw [del_ne hba, upd_ne hba, upd_ne hb, upd_ne hba]
    rw [eH]
    have nG := r1.hst.nog nx1
    exact kk (putG G1 dx .frz (.xd [(f, .int i)])) al1 σ _ (ev1.trans (ev_put nG)) ((r1.fresh nx1).tag nG upd_same) (some dx) (.inr ⟨dx, _, rfl, zof_of putG_same, rfl, .cons (d1.ev (ev_put nG)) .nil⟩)
end
section
variable {P : Program} {w : World} {K : PySem.W.Frag} {mg : Str -> Option Value} {base : Heap} {x qual : Str} {params : Arguments} {body : List Stmt} {scope : Scope} {fI C : Addr} {fd : FuncData} {k : Nat} {f z sl al nm : Str}
theorem exI_ok (F : FunD K nm qual params body scope [] [] fI fd) (S : FnScope [sl, al] [sl, al] scope) (c : ExfC K C fI f) (gl : mg x = some (.ref C)) (hz : z.length <= 1000)
    (hb : ∀ (cdv : Value) (A : Around) (outer : List Env) (s : Shared) (H : Hp) (E : XK), PSs (cxOf CX0 P w K mg base [sl, al] qual scope fI cdv A outer s H E) body (tSeq (tDrop (tXi K "ValueError.__init__" (tCons (tVar 0) (tCons (tZr z) tNil)))) (tOst K f (tVar 0) (tVar 1))))
    (bn : ∀ (kV doc pm : Value) (an : Option Addr) (cdv ct : Value) (us : List Value), us.length = 2 -> bindArgs (PySem.W.fnOf nm qual params body scope .none kV doc pm an cdv ct) ⟨us, []⟩ = pure ([sl, al].zip us)) :
    ExI P w K mg base (k + 1) x C f :=
  ⟨⟨fI, fd, sl, al, initI_ok hz F S c.xi c.T c.no hb, F.bindsN bn, c.iC, c.tI⟩, c.T, gl⟩
end
section
variable {m : MS} {QF : Fl -> MS -> Prop} {c : Nat}
theorem w_raiseI {f : Str} {fs : Den (List D)} (h : W fs m fun ds m1 => ∃ i : Int, ds = [.int i] /\ i.natAbs.log2 < 1920 /\ QF (.xc c [(f, .int i)]) m1) : W (sRaiseI c f fs) m QF := by
  refine w_bind (h.mono fun ds m1 ⟨i, e, hi, q⟩ => ?_)
  subst e
  refine ⟨_, _, ?_, q⟩
  show (if i.natAbs.log2 < 1920 then R.ok (Fl.xc c [(f, .int i)]) m1 else .bad) = _
  rw [if_pos hi]
end
end MI
namespace MI
open PySem PySem.Spec L2
theorem CO.dic {K : KX} {Z : Hp} {al : List Addr} {a : Addr} {o : HO} {ds : List (D × D)} (c : CO K Z al a o (.dic ds)) : ∃ ks, o = .dK ks /\ ds.map Prod.fst = ks.map (fun q => kD q.1) /\ DVs K Z al (ks.map Prod.snd) (ds.map Prod.snd) := by
  unfold CO at c
  split at c
  · next h => cases h
  · next h => cases h
  · next ks ds' h => cases h; exact ⟨ks, rfl, c⟩
  · exact c.elim
structure WalkF (K : KX) (cls : Nat -> Addr) (own : Nat -> Bool) (J : It) (ds : List D) (Gs : Gh) (als : List Addr) : Prop where
  goes : ∀ G al m σ H i, Ev Gs als G al -> Rst K cls own G al m σ H -> i < ds.length -> J.go i H
  stops : ∀ G al m σ H, Ev Gs als G al -> Rst K cls own G al m σ H -> J.stop ds.length H
  yields : ∀ G al m σ H i x H' d, Ev Gs als G al -> Rst K cls own G al m σ H -> ds[i]? = some d -> J.yld i H x H' -> ∃ G', Ev G al G' al /\ Rst K cls own G' al m σ H' /\ DV K (Zof G') al x d
end MI
namespace MI
open PySem PySem.Spec L2
abbrev TN := L2.St -> Hp -> (Hp -> Prop) -> Prop
structure PNn (Y : Cx) (inner : Sem Unit) (vs : List Nat) (t : TN) : Prop where
  run : ∀ (P : List (Addr × Obj)) (z : Shared) (σ : L2.St) (H : Hp) (Nx : Hp -> Prop), Inv Y P σ H z -> t σ H Nx ->
    wpAny (model Y.prog Y.w) Y.A inner (fun _ z' => ∃ H', Inv Y P (wipe σ vs) H' z' /\ Nx H') (fun _ _ => False) z
structure CodeIs (e : Expr) (k : Nat) : Prop where
  und : ∀ (A : Around) (j acc : Value) (env : Env), A.under (.compLoop e k j acc env) = A
  unds : ∀ (A : Around) (j acc : Value) (env : Env), A.under (.compStart e k j acc env) = A
  den : ∀ (prog : Program) (w : World) (j acc : Value) (env : Env), (model prog w).den (.compLoop e k j acc env) = (compTurn e k j acc env).onRaise (fun y => do noteFrame y env; theTreesLotGoes y)
  dens : ∀ (prog : Program) (w : World) (j acc : Value) (env : Env), (model prog w).den (.compStart e k j acc env) = (compStart e k j acc env).onRaise (fun y => do noteFrame y env; standAt theWindowsPlace)
end MI
namespace MI
open PySem PySem.Spec L2 PyProof.Rows
end MI
namespace MI
open PySem PySem.Spec L2
structure AC (K : KX) (D0 : Addr) where
  is : Gh -> List Addr -> List D -> Prop
  ob : ∀ {G al l}, is G al l -> ∃ o, G D0 = some (.frm, o)
  ev : ∀ {G al G' al' l}, Ev G al G' al' -> is G al l -> is G' al' l
end MI
namespace MI
open PySem PySem.Spec L2
end MI
namespace MI
open PySem PySem.Spec L2
end MI
namespace MI
open PySem PySem.Spec L2
end MI
namespace MI
open PySem PySem.Spec L2 PyProof.Rows
end MI
namespace MI
open PySem PySem.Spec L2
end MI
namespace MI
open PySem PySem.Spec L2
end MI
namespace MI
open PySem PySem.Spec L2
end MI
namespace MI
open PySem PySem.Spec L2
end MI
namespace MI
open PySem PySem.Spec L2
end MI
namespace MI
open PySem PySem.Spec L2
end MI
namespace MI
open PySem PySem.Spec PyProof.Rows
end MI
namespace MI
open PySem PySem.Spec L2
def lt2 (a b : Int × Int) : Prop := a.1 < b.1 \/ (a.1 = b.1 /\ a.2 < b.2)
instance (a b : Int × Int) : Decidable (lt2 a b) := inferInstanceAs (Decidable (_ \/ _))
end MI
namespace MI
open PySem PySem.Spec L2 PyProof.Rows
end MI
namespace MI
open PySem PySem.Spec L2
end MI
namespace MI
open PySem PySem.Spec L2
end MI
namespace MI
open PySem PySem.Spec L2
def repS (s : Str) (n : Nat) : Str := ⟨(List.replicate n s.cps).foldl (· ++ ·) #[]⟩
theorem size_rpS (a : Array Nat) : ∀ (n : Nat) (acc : Array Nat), ((List.replicate n a).foldl (· ++ ·) acc).size = acc.size + n * a.size
  | 0, acc => by simp
  | n + 1, acc => by
    rw [List.replicate_succ, List.foldl_cons, size_rpS a n, Array.size_append, Nat.succ_mul]
    omega
variable {K : KX} {cls : Nat -> Addr} {own : Nat -> Bool}
end MI
namespace MI
open PySem PySem.Spec L2
mutual
def hN : D -> Option Int
  | .int i => some (hashInt i)
  | .tup ds => (hNs ds).map fun hs => reduceHash (Builtin.Tuple.tupleHashOf hs)
  | _ => none
def hNs : List D -> Option (List Int)
  | [] => some []
  | d :: r => match hN d, hNs r with
    | some h, some hs => some (h :: hs)
    | _, _ => none
end
mutual
theorem hN_ok {w : World} : ∀ {d : D} {k : NestedKey} {h : Int}, toNK d = some k -> hN d = some h -> k.hash w = h
  | .int i, k, h, e, q => by
    rw [toNK] at e
    rw [hN] at q
    cases e; cases q
    rw [NestedKey.hash]
  | .tup ds, k, h, e, q => by
    rw [toNK] at e
    rw [hN] at q
    cases z : toNKs ds with
    | none => rw [z] at e; cases e
    | some ks =>
      rw [z] at e; cases e
      cases y : hNs ds with
      | none => rw [y] at q; cases q
      | some hs =>
        rw [y] at q; cases q
        rw [NestedKey.hash, hNs_ok z y]
  | .non, _, _, _, q => by rw [hN] at q <;> first | cases q | simp
  | .bl _, _, _, _, q => by rw [hN] at q <;> first | cases q | simp
  | .str _, _, _, _, q => by rw [hN] at q <;> first | cases q | simp
  | .lst _, _, _, _, q => by rw [hN] at q <;> first | cases q | simp
  | .dic _, _, _, _, q => by rw [hN] at q <;> first | cases q | simp
  | .dit _, _, _, _, q => by rw [hN] at q <;> first | cases q | simp
  | .obj _, _, _, _, q => by rw [hN] at q <;> first | cases q | simp
theorem hNs_ok {w : World} : ∀ {ds : List D} {ks : List NestedKey} {hs : List Int}, toNKs ds = some ks -> hNs ds = some hs -> NestedKey.hashes w ks = hs
  | [], ks, hs, e, h => by rw [toNKs] at e; rw [hNs] at h; cases e; cases h; rfl
  | d :: ds, ks, hs, e, h => by
    obtain ⟨p, ps, h1, h2, rfl⟩ := toNKs_cons e
    rw [hNs] at h
    split at h
    · next a b q1 q2 => cases h; rw [NestedKey.hashes, hN_ok h1 q1, hNs_ok h2 q2]
    · cases h
end
end MI
namespace MI
open PySem PySem.Spec L2
end MI
namespace MI
open PySem PySem.Spec L2 PyProof.Rows
end MI
namespace MI
open PySem PySem.Spec L2
theorem huO {k : Nat} {A : Around} (hr : Room k A) : A.units + 65 < cLine := by have := hr.un; omega
theorem aL0 : ∀ m hs m', aNil m = .ok hs m' -> hs.length = 0 := fun _ _ _ h => aNil_len h
theorem aL {f : Den Hd} {r : Den (List Hd)} {j : Nat} (hr : ∀ m hs m', r m = .ok hs m' -> hs.length = j) : ∀ m hs m', aCons f r m = .ok hs m' -> hs.length = j + 1 := fun _ _ _ h => aCons_len hr h
theorem aS {r : Den (List Hd)} {n : Nat} (hr : ∀ m hs m', r m = .ok hs m' -> hs.length = n) : ∀ m hs m', r m = .ok hs m' -> hs.length.succ = n.succ := fun m hs m' h => congrArg Nat.succ (hr m hs m' h)
theorem fm_len {α β : Type} {f : α -> Option β} : ∀ {l : List α}, (∀ x ∈ l, (f x).isSome = true) -> (l.filterMap f).length = l.length
  | [], _ => rfl
  | x :: l, h => by
    obtain ⟨b, e⟩ := Option.isSome_iff_exists.mp (h x (List.mem_cons_self ..))
    rw [List.filterMap_cons_some e, List.length_cons, List.length_cons, fm_len fun y hy => h y (List.mem_cons_of_mem _ hy)]
theorem arrL {α : Type} {sp : List Src} {n k np : Nat} {dvs : List α} (hb : (sp.all fun s => match s with | .p i => decide (i < n) | .k i => decide (i < k) | .d i => decide (i < dvs.length)) = true) (hn : sp.length = np) :
    ∀ vs zs : List α, vs.length = n -> zs.length = k -> (arr sp vs dvs zs).length = np := by
  intro vs zs h1 h2
  rw [<- hn]
  unfold arr
  refine fm_len fun s hs => ?_
  have hh := List.all_eq_true.mp hb s hs
  have sm : ∀ {l : List α} {i : Nat}, i < l.length -> (l[i]?).isSome = true := fun h => by rw [List.getElem?_eq_getElem h]; rfl
  cases s with
  | p i => exact sm (l := vs) (by have := of_decide_eq_true hh; omega)
  | k i => exact sm (l := zs) (by have := of_decide_eq_true hh; omega)
  | d i => exact sm (l := dvs) (of_decide_eq_true hh)
theorem gdO {k : Nat} {A : Around} {e : Env} (_ : Room k (A.deeper e)) (gd : A.guards = some []) : (A.deeper e).guards = some [] := gd
def bChain (g g' : D -> D -> Option D) (fa fb fc : Den Hd) : Den Bool := fa.bind fun h1 => fb.bind fun h2 => fun m2 => match look h1 m2, look h2 m2 with
  | some x, some y => match g x y with
    | some (.bl c) => if c then (fc.bind fun h3 => fun m3 => match look h2 m3, look h3 m3 with
        | some y', some z => match g' y' z with
          | some (.bl c') => .ok c' m3
          | _ => .bad
        | _, _ => .bad) m2 else .ok false m2
    | _ => .bad
  | _, _ => .bad
theorem bChain_ok {g g' : D -> D -> Option D} {fa fb fc : Den Hd} {m m' : MS} {d : Bool} (e : bChain g g' fa fb fc m = .ok d m') :
    ∃ h1 m1 h2 m2 x y c, fa m = .ok h1 m1 /\ fb m1 = .ok h2 m2 /\ look h1 m2 = some x /\ look h2 m2 = some y /\ g x y = some (.bl c) /\
      ((c = false /\ d = false /\ m' = m2) \/ (c = true /\ ∃ h3 y' z, fc m2 = .ok h3 m' /\ look h2 m' = some y' /\ look h3 m' = some z /\ g' y' z = some (.bl d))) := by
  obtain ⟨h1, m1, e1, e⟩ := bind_ok e
  obtain ⟨h2, m2, e2, e⟩ := bind_ok e
  split at e
  case h_2 => cases e
  next x y l1 l2 =>
  split at e
  case h_2 => cases e
  next c gz =>
  cases c with
  | false =>
    cases e
    exact ⟨h1, m1, h2, _, x, y, false, e1, e2, l1, l2, gz, .inl ⟨rfl, rfl, rfl⟩⟩
  | true =>
    obtain ⟨h3, m3, e3, e⟩ := bind_ok (show (fc.bind _) m2 = _ from e)
    split at e
    case h_2 => cases e
    next y' z l3 l4 =>
    split at e
    case h_2 => cases e
    next c' gz' =>
    cases e
    exact ⟨h1, m1, h2, m2, x, y, true, e1, e2, l1, l2, gz, .inr ⟨rfl, h3, y', z, e3, l3, l4, gz'⟩⟩
section
variable {cls : Nat -> Addr} {own : Nat -> Bool} {X : Cx} {a b c : Expr} {fa fb fc : Den Hd} {pos : Pos}
theorem sb_chain {op op' : CmpOp} {r r' : R2} {g g' : D -> D -> Option D} (ho : OpR X (compareOp op) r) (hg : OpOk X.kx cls own r g) (ho' : OpR X (compareOp op') r') (hg' : OpOk X.kx cls own r' g') (ha : SH cls own X a fa) (hb : SH cls own X b fb) (hc : SH cls own X c fc)
    (hm : lastMarks [op, op'] [b, c] = false := by with_unfolding_all rfl) : SB cls own X (.Compare a [op, op'] [b, c] pos) (bChain g g' fa fb fc) := by
  refine pt_imp (pt_chain ho ho' ha hb hc hm) fun σ H Q q => ?_
  obtain ⟨G, al, m, d, m', r, e, k⟩ := q
  obtain ⟨h1, m1, h2, m2, x, y, c, e1, e2, l1, l2, gz, e⟩ := bChain_ok e
  refine ⟨G, al, m, h1, m1, r, e1, fun G1 al1 v H1 ev1 r1 hv1 => ⟨G1, al1, m1, h2, m2, r1, e2, fun G2 al2 u H2 ev2 r2 hv2 => ?_⟩⟩
  refine hg G2 al2 _ σ H2 v u x y _ _ r2 (look_cr r2 (hv1.ev ev2) l1) (look_cr r2 hv2 l2) gz fun G3 al3 w H3 ev3 r3 dv => ?_
  cases dv
  rcases e with ⟨rfl, rfl, rfl⟩ | ⟨rfl, h3, y', z, e3, l3, l4, gz'⟩
  · exact ⟨false, rfl, ⟨false, rfl, k G3 al3 H3 ((ev1.trans ev2).trans ev3) r3⟩⟩
  · refine ⟨true, rfl, ?_⟩
    rw [if_pos rfl]
    refine ⟨G3, al3, m2, h3, m', r3, e3, fun G4 al4 w' H4 ev4 r4 hv4 => ?_⟩
    refine hg' G4 al4 _ σ H4 u w' y' z _ _ r4 (look_cr r4 ((hv2.ev ev3).ev ev4) l3) (look_cr r4 hv4 l4) gz' fun G5 al5 w5 H5 ev5 r5 dv5 => ?_
    cases dv5
    exact ⟨_, rfl, k G5 al5 H5 ((((ev1.trans ev2).trans ev3).trans ev4).trans ev5) r5⟩
end
theorem w_chain {g g' : D -> D -> Option D} {fa fb fc : Den Hd} {m : MS} {Q : Bool -> MS -> Prop} (h : W fa m fun h1 m1 => W fb m1 fun h2 m2 => ∃ x y c, look h1 m2 = some x /\ look h2 m2 = some y /\ g x y = some (.bl c) /\ (c = false -> Q false m2) /\
    (c = true -> W fc m2 fun h3 m3 => ∃ y' z c', look h2 m3 = some y' /\ look h3 m3 = some z /\ g' y' z = some (.bl c') /\ Q c' m3)) : W (bChain g g' fa fb fc) m Q := by
  refine w_bind (h.mono fun h1 m1 q => w_bind (q.mono fun h2 m2 ⟨x, y, c, l1, l2, gz, q1, q2⟩ => ?_))
  cases c with
  | false => exact ⟨false, m2, by simp only [l1, l2, gz]; rfl, q1 rfl⟩
  | true =>
    obtain ⟨h3, m3, e3, y', z, c', l3, l4, gz', q⟩ := q2 rfl
    refine ⟨c', m3, ?_, q⟩
    simp only [l1, l2, gz]
    show (fc.bind _) m2 = _
    unfold Den.bind
    simp only [e3, l3, l4, gz']
end MI
namespace MI
open PySem PySem.Spec L2 PyProof.Rows
mutual
def numK : NestedKey -> Bool
  | .num _ => true
  | .tup ks => numKs ks
  | .none => false
  | .text _ => false
def numKs : List NestedKey -> Bool
  | [] => true
  | k :: ks => numK k && numKs ks
end
section
variable {P : Program} {w : World} {A : Around} {E : Value -> Shared -> Prop} {s : Shared}
theorem loop_none {vs : Array Value} {f : Value -> Option Bool × Unit -> Sem (ForInStep (Option Bool × Unit))} {Q : Option Bool × Unit -> Shared -> Prop}
    (h : ∀ v ∈ vs.toList, ∀ Q' : ForInStep (Option Bool × Unit) -> Shared -> Prop, Q' (.yield (none, ())) s -> wpAny (model P w) A (f v (none, ())) Q' E s) (q : Q (none, ()) s) : wpAny (model P w) A (forIn vs (none, ()) f) Q E s := by
  rw [<- Array.forIn_toList]
  refine wpAny_forIn_list _ (fun rest r s' => r = (none, ()) /\ s' = s /\ ∀ v ∈ rest, v ∈ vs.toList) _ ?_ ?_ _ _ ⟨rfl, rfl, fun v hv => hv⟩
  · rintro v rest r s' ⟨rfl, rfl, hall⟩
    exact h v (hall v (List.mem_cons_self ..)) _ ⟨rfl, rfl, fun u hu => hall u (List.mem_cons_of_mem _ hu)⟩
  · rintro r s' ⟨rfl, rfl, _⟩
    exact q
mutual
theorem cls_key : ∀ (k : NestedKey) (v : Value) (n : Nat) (A : Around) (E : Value -> Shared -> Prop) (s : Shared) (Q : Bool -> Shared -> Prop), NestedIs s.heap k v -> k.depth <= n -> Q false s -> wpAny (model P w) A (ofAClassStatement n v) Q E s
  | .none, _, n, A, E, s, Q, x, _, q => by cases x; cases n <;> exact wpAny_pure q
  | .num i, _, n, A, E, s, Q, x, _, q => by cases x <;> cases n <;> exact wpAny_pure q
  | .text y, _, n, A, E, s, Q, x, _, q => by cases x; cases n <;> exact wpAny_pure q
  | .tup ks, _, n, A, E, s, Q, x, hn, q => by
    cases x with
    | @tup a o vs m _ hg hc hd hk =>
      simp only [NestedKey.depth] at hn
      cases n with
      | zero => omega
      | succ n =>
        have hT : s.TypeIs (.ref a) "tuple" := ⟨o, hg, hc⟩
        unfold ofAClassStatement
        refine wpAny_bind (wpAny_typeOf hT ?_)
        have e : (("tuple" : String) == "tuple") = true := by decide
        simp only [e, if_true, Bool.not_true, Bool.false_eq_true, if_false]
        try refine wpAny_bind (wpAny_pure ?_)
        try simp only [Bool.not_true, Bool.false_eq_true, if_false]
        show wpAny _ _ (seqItems? (.ref a) >>= _) _ _ s
        refine wpAny_bind (wpAny_seqItems hg hd ?_)
        refine wpAny_bind ?_
        refine loop_none ?_ ?_
        rotate_left
        · dsimp only
          exact wpAny_pure q
        intro v hv Q' q'
        refine wpAny_bind (cls_keys ks _ n A E s hk (by omega) v hv _ ?_)
        simp only [Bool.false_eq_true, if_false]
        exact wpAny_pure q'
theorem cls_keys : ∀ (ks : List NestedKey) (vs : List Value) (n : Nat) (A : Around) (E : Value -> Shared -> Prop) (s : Shared), NestedAll s.heap ks vs -> NestedKey.depthAll ks <= n -> ∀ v ∈ vs, ∀ Q : Bool -> Shared -> Prop, Q false s -> wpAny (model P w) A (ofAClassStatement n v) Q E s
  | [], _, n, A, E, s, x, _, v, hv, _, _ => by cases x; cases hv
  | k :: ks, _, n, A, E, s, x, hn, v, hv, Q, q => by
    cases x with
    | cons x1 x2 =>
      simp only [NestedKey.depthAll] at hn
      rcases List.mem_cons.mp hv with e | hv
      · rw [e]; exact cls_key k _ n A E s Q x1 (by omega) q
      · exact cls_keys ks _ n A E s x2 (by omega) v hv Q q
end
mutual
theorem byv_key : ∀ (k : NestedKey) (v : Value) (n : Nat) (A : Around) (E : Value -> Shared -> Prop) (s : Shared) (Q : Bool -> Shared -> Prop), NestedIs s.heap k v -> numK k = true -> k.depth <= n -> Q true s -> wpAny (model P w) A (hashByValue n v) Q E s
  | .none, _, n, A, E, s, Q, x, hk, _, q => by rw [numK] at hk; cases hk
  | .num i, _, n, A, E, s, Q, x, _, _, q => by cases x <;> cases n <;> exact wpAny_pure q
  | .text y, _, n, A, E, s, Q, x, hk, _, q => by rw [numK] at hk; cases hk
  | .tup ks, _, n, A, E, s, Q, x, hb, hn, q => by
    cases x with
    | @tup a o vs m _ hg hc hd hk =>
      simp only [NestedKey.depth] at hn
      rw [numK] at hb
      cases n with
      | zero => omega
      | succ n =>
        have hT : s.TypeIs (.ref a) "tuple" := ⟨o, hg, hc⟩
        unfold hashByValue
        refine wpAny_bind (wpAny_specialOf hT F.slot_tuple_hash.lookup ?_)
        show wpAny _ _ (seqItems? (.ref a) >>= _) _ _ s
        refine wpAny_bind (wpAny_seqItems hg hd ?_)
        refine wpAny_bind ?_
        show wpAny _ _ (forIn vs _ _) _ _ s
        refine loop_none ?_ ?_
        rotate_left
        · dsimp only
          exact wpAny_pure q
        intro v hv Q' q'
        refine wpAny_bind (byv_keys ks _ n A E s hk hb (by omega) v hv _ ?_)
        simp only [Bool.not_true, Bool.false_eq_true, if_false]
        exact wpAny_pure q'
theorem byv_keys : ∀ (ks : List NestedKey) (vs : List Value) (n : Nat) (A : Around) (E : Value -> Shared -> Prop) (s : Shared), NestedAll s.heap ks vs -> numKs ks = true -> NestedKey.depthAll ks <= n -> ∀ v ∈ vs, ∀ Q : Bool -> Shared -> Prop, Q true s -> wpAny (model P w) A (hashByValue n v) Q E s
  | [], _, n, A, E, s, x, _, _, v, hv, _, _ => by cases x; cases hv
  | k :: ks, _, n, A, E, s, x, hb, hn, v, hv, Q, q => by
    cases x with
    | cons x1 x2 =>
      simp only [NestedKey.depthAll] at hn
      rw [numKs, Bool.and_eq_true] at hb
      rcases List.mem_cons.mp hv with e | hv
      · rw [e]; exact byv_key k _ n A E s Q x1 hb.1 (by omega) q
      · exact byv_keys ks _ n A E s x2 hb.2 (by omega) v hv Q q
end
structure KI (h : Heap) (k : NestedKey) (a : Addr) : Prop where
  i : NestedIs h k (.ref a)
  d : k.depth <= 8
  n : numK k = true
theorem KI.keep {h h' : Heap} {k : NestedKey} {a : Addr} (x : KI h k a) (e : ∀ b o vs n, h.get? b = some o -> o.data = .seq vs n -> h'.get? b = some o) : KI h' k a := ⟨NestedIs.at e _ _ x.i, x.d, x.n⟩
theorem KI.inj {h : Heap} {k k' : NestedKey} {a : Addr} (x : KI h k a) (y : KI h k' a) : k = k' := NestedIs.inj _ _ _ x.i y.i
theorem KI.same {h h' : Heap} {k : NestedKey} {a c : Addr} {o : Obj} {es : Array (Int × Value)} {ep : Nat} {t : SetTable} (x : KI h k a) (ho : h.get? c = some o) (hd : o.data = .set es ep t) (sb : Heap.SameBut c h h') : KI h' k a :=
  x.keep fun b ob vs n hb hs => (sb.2 b fun e => by
    subst e
    rw [ho] at hb
    cases hb
    rw [hd] at hs
    cases hs).trans hb
abbrev KL := List (Addr × NestedKey)
def eRows (w : World) (L : KL) : List (Int × Value) := L.map fun p => (p.2.hash w, Value.ref p.1)
abbrev eHs (w : World) (L : KL) : List Int := L.map fun p => p.2.hash w
structure KS (w : World) (h : Heap) (a : Addr) (L : KL) (es : Array (Int × Value)) (ep : Nat) (t : SetTable) : Prop where
  ob : ∃ o, h.get? a = some o /\ o.ExactSet /\ o.data = .set es ep t
  rows : es.toList = eRows w L
  tab : TabOk t (eHs w L)
  nd : (L.map (·.2)).Nodup
  it : ∀ p ∈ L, KI h p.2 p.1
  plain : t.plain = true
  led : w.params.followText "set-order" = true \/ t.led = true
  room : L.length * 5 < t.mask * 3
  few : L.length < 64
variable {a : Addr} {L : KL} {es : Array (Int × Value)} {ep : Nat} {t : SetTable}
end
end MI
namespace MI
open PySem PySem.Spec L2 PyProof.Rows
section
variable {P : Program} {w : World} {A : Around} {E : Value -> Shared -> Prop} {s : Shared} {a : Addr} {L : KL} {es : Array (Int × Value)} {ep : Nat} {t : SetTable}
structure GotK (ks : KL) (i : Nat) (L : KL) : Prop where
  sub : ∀ p ∈ L, p ∈ ks
  all : ∀ p ∈ ks.take i, p.2 ∈ L.map (·.2)
theorem KS.keep {h h' : Heap} (R : KS w h a L es ep t) (ha : ∀ o, h.get? a = some o -> h'.get? a = some o) (hi : ∀ p ∈ L, KI h' p.2 p.1) : KS w h' a L es ep t := by
  obtain ⟨o, ho, r⟩ := R.ob
  exact ⟨⟨o, ha o ho, r⟩, R.rows, R.tab, R.nd, hi, R.plain, R.led, R.room, R.few⟩
end
end MI
namespace MI
open PySem PySem.Spec L2 PyProof.Rows
end MI
namespace MI
open PySem PySem.Spec L2 PyProof.Rows
mutual
theorem toNK_inj : ∀ {a b : D} {k : NestedKey}, toNK a = some k -> toNK b = some k -> a = b
  | .non, b, k, h1, h2 => by cases h1; cases b <;> simp [toNK] at h2 <;> first | rfl | skip
  | .bl x, b, k, h1, h2 => by simp [toNK] at h1
  | .int x, b, k, h1, h2 => by cases h1; cases b <;> simp [toNK] at h2 <;> first | (rw [h2]) | skip
  | .str x, b, k, h1, h2 => by cases h1; cases b <;> simp [toNK] at h2 <;> first | (rw [h2]) | skip
  | .tup xs, b, k, h1, h2 => by
    rw [toNK, Option.map_eq_some_iff] at h1
    obtain ⟨ks, e1, rfl⟩ := h1
    cases b <;> simp [toNK] at h2
    rw [toNKs_inj e1 h2]
  | .lst _, b, k, h1, h2 => by simp [toNK] at h1
  | .dic _, b, k, h1, h2 => by simp [toNK] at h1
  | .dit _, b, k, h1, h2 => by simp [toNK] at h1
  | .set _, b, k, h1, h2 => by simp [toNK] at h1
  | .obj _, b, k, h1, h2 => by simp [toNK] at h1
  | .scr _, b, k, h1, h2 => by simp [toNK] at h1
theorem toNKs_inj : ∀ {a b : List D} {k : List NestedKey}, toNKs a = some k -> toNKs b = some k -> a = b
  | [], b, k, h1, h2 => by
    cases h1
    cases b with
    | nil => rfl
    | cons y b => obtain ⟨_, _, _, _, z⟩ := toNKs_cons h2; cases z
  | x :: a, b, k, h1, h2 => by
    obtain ⟨p1, ps1, e1, e2, rfl⟩ := toNKs_cons h1
    cases b with
    | nil => cases h2
    | cons y b =>
      obtain ⟨p2, ps2, e3, e4, z⟩ := toNKs_cons h2
      cases z
      rw [toNK_inj e1 e3, toNKs_inj e2 e4]
end
def numD (d : D) : Bool := isNK d && (match toNK d with | some k => numK k | none => false) && match d with | .tup (_ :: _) => true | _ => false
end MI
namespace MI
open PySem PySem.Spec L2 PyProof.Rows
end MI
namespace MI
open PySem PySem.Spec L2 PyProof.Rows
end MI
namespace MI
open PySem PySem.Spec L2 PyProof.Rows
def cap (own : Nat -> Bool) (sl : List (Option D)) : List (Option D) := sl.mapIdx fun i d => if own i then none else d
abbrev LamR := Sto -> Option (Xr × Sto)
def eAsk (i n : Nat) (L : LamR) : Den Xr := fun m => match m.sl[i]? with
  | some (some (.obj n')) => if n' = n then match L m.st with
      | some (r, st) => .ok r { m with st := st }
      | none => .bad else .bad
  | _ => .bad
def tXJ (J : Gh -> List Addr -> Prop) (X : Cx) (cls : Nat -> Addr) (own : Nat -> Bool) (f : Den Xr) : TE := fun σ H Q => ∃ G al m r m', Rst X.kx cls own G al m σ H /\ J G al /\ f m = .ok r m' /\ XEndR X cls own G al m' σ Q r
def LamJ (K : KX) (own : Nat -> Bool) (sl : List (Option D)) (σ : L2.St) (n : Nat) (f c' : Addr) (q : Str) : Gh -> List Addr -> Prop := fun G al => al[n]? = some f /\ CodeZ (Zof G) c' q /\ ∀ (i : Nat) (d : D), (cap own sl)[i]? = some (some d) -> ∃ v : V, σ[i]? = some (some v) /\ DV K (Zof G) al v d
theorem LamJ.ev {K : KX} {own : Nat -> Bool} {sl : List (Option D)} {σ : L2.St} {n : Nat} {f c' : Addr} {q : Str} {G G' : Gh} {al al' : List Addr} (h : LamJ K own sl σ n f c' q G al) (e : Ev G al G' al') : LamJ K own sl σ n f c' q G' al' := by
  obtain ⟨h1, h2, h3⟩ := h
  refine ⟨?_, h2.mono e.same, fun i d q => ?_⟩
  · obtain ⟨t, rfl⟩ := e.al
    rw [List.getElem?_append_left (List.getElem?_eq_some_iff.mp h1).1]
    exact h1
  · obtain ⟨v, q1, q2⟩ := h3 i d q
    exact ⟨v, q1, q2.ev e⟩
end MI
namespace MI
open PySem PySem.Spec L2 PyProof.Rows
def LamOk (P : Program) (w : World) (K : PySem.W.Frag) (mg : Str -> Option Value) (base : Heap) (cls : Nat -> Addr) (k : Nat) (x a : Str) (g : Addr) (N : List Str) (sg : Scope) (bg : List Stmt) (cal : Nat -> LamR -> Den Fl) : Prop :=
  ∀ (cdg : Value) (A : Around) (out : List Env) (s : Shared) (H : Hp) (J : Gh -> List Addr -> Prop) (n : Nat) (L : LamR), Room k (A.deeper (envOfC x sg s.heap.objs.size g cdg)) -> A.guards = some [] -> (∀ {G al G' al'}, J G al -> Ev G al G' al' -> J G' al') ->
    (∀ (pn : List (Addr × Obj)) (xe : Value -> Shared -> Prop) (p1 p2 : Pos), PE (((cxOf L2.CX0 P w K mg base N x sg g cdg A out s H L2.E0).nox).tr pn xe) (.Call (.Name a p1) [] [] p2) (tXJ J (((cxOf L2.CX0 P w K mg base N x sg g cdg A out s H L2.E0).nox).tr pn xe) cls (ownL []) (eAsk 0 n L))) ->
    PSs (cxOf L2.CX0 P w K mg base N x sg g cdg A out s H L2.E0).nox bg (tSJ J (cxOf L2.CX0 P w K mg base N x sg g cdg A out s H L2.E0).nox cls (ownL []) (cal n L))
structure LamD (P : Program) (w : World) (K : PySem.W.Frag) (mg : Str -> Option Value) (base : Heap) (cls : Nat -> Addr) (k : Nat) (x a : Str) (g : Addr) (fd : FuncData) (N : List Str) (sg : Scope) (cal : Nat -> LamR -> Den Fl) : Prop where
  ex : ∃ (pg : Arguments) (bg : List Stmt), FunD K x x pg bg sg [] [] g fd /\ LamOk P w K mg base cls k x a g N sg bg cal
  gl : mg x = some (.ref g)
  sc : FnScope N [a] sg
  n0 : N[0]? = some a
  vis : Vis sg a
end MI
namespace MI
open PySem PySem.Spec L2
structure DefGX (P : Program) (w : World) (K : PySem.W.Frag) (mg : Str -> Option Value) (base : Heap) (cls : Nat -> Addr) (k : Nat) (x : Str) (f : Addr) (fd : FuncData) (ps : List Str) (fn : FnX) : Prop where
  ok : FnGX P w K mg base k f fd ps (SpX ⟨K, P, w⟩ cls ps.length fn)
  gl : mg x = some (.ref f)
  kp : PySem.W.keepIn K (.ref f) = true
def eCallX (fn : FnX) (sp : List Src) (dd : List D) (fs fk : Den (List D)) : Den Xr := fs.bind fun ds => fk.bind fun es => fun m => match fn (arr sp ds dd es) m.st with
  | some (r, st) => .ok r { m with st := st }
  | none => .bad
def sSetX (i : Nat) (f : Den Xr) : Den Fl := f.bind fun r => fun m => match r with
  | .inl d => .ok .nx { m with sl := m.sl.set i (some d) }
  | .inr (c, fs) => .ok (.xc c fs) m
section
variable {cls : Nat -> Addr} {own : Nat -> Bool} {X : Cx} {k j n c : Nat} {f : Addr} {fd : FuncData} {ps ks : List Str} {fn : FnX} {x nm : Str} {p pos apos : Pos} {e o : Expr} {es : List Expr} {fs fk : Den (List Hd)} {kws : List Keyword} {sp : List Src} {dvs : List V} {dds : List D} {mv : List Value}
theorem ss_setX {i : Nat} {a : Expr} {pos' : Pos} {fe : Den Xr} (ho : own i = false) (hN : X.N.Nodup) (hi : X.N[i]? = some x) (hx : Loc X.env.scope x) (h : SX cls own X a fe) (hs : swapsWith a (some (.Name x pos')) pos.line X.env = pure false := by rfl)
    (hf : X.fn x = true \/ X.env.scope.names.lookup x = some .local := by first | exact .inl rfl | exact .inr rfl | assumption) : SS cls own X (.Assign [.Name x pos'] a pos) (sSetX i fe) := by
  refine ps_imp (ps_set hN hi hx h hs hf) fun E σ H q => ?_
  obtain ⟨G, al, m, fl, m', r, e, k⟩ := q
  obtain ⟨d, m1, e1, e⟩ := bind_ok e
  cases d with
  | inl d =>
    cases e
    exact ⟨G, al, m, .inl d, m1, r, e1, fun G1 al1 v H1 ev1 r1 dv => k G1 al1 _ H1 ev1 (r1.set dv ho)⟩
  | inr q =>
    obtain ⟨c, fs⟩ := q
    cases e
    exact ⟨G, al, m, .inr (c, fs), _, r, e1, fun G1 al1 dd H1 ev1 r1 hx => k G1 al1 σ H1 ev1 r1 dd hx⟩
theorem callKX_core {np : Nat} (hnp : ∀ vs zs : List V, vs.length = n -> zs.length = ks.length -> (arr sp vs dvs zs).length = np) (hdd : DVs X.kx (fun _ => none) [] dvs dds) (hl1 : ∀ m hs m', fs m = .ok hs m' -> hs.length = n) (hl2 : ∀ m hs m', fk m = .ok hs m' -> hs.length = ks.length)
    {σ : St} {H : Hp} {Q : VK} (q : tX X cls own (eCallX fn sp dds (aVals fs) (aVals fk)) σ H Q) :
    tHs X.kx cls own fs σ H fun vs H1 => tHs X.kx cls own fk σ H1 fun zs H2 => vs.length = n /\ zs.length = ks.length /\ SpX X.kx cls np fn (arr sp vs dvs zs) H2 Q (fun c d H' => Wx X c d σ H') := by
  obtain ⟨G, al, m, d, m', r, e, k⟩ := q
  obtain ⟨as, m1, e1, e⟩ := bind_ok e
  obtain ⟨bs, m2, e2, e⟩ := bind_ok e
  obtain ⟨hs, e1, l1⟩ := aVals_ok e1
  obtain ⟨gs, e2, l2⟩ := aVals_ok e2
  split at e
  · next d0 st0 e3 =>
    cases e
    refine ⟨G, al, m, hs, m1, r, e1, fun G1 al1 vs H1 ev1 r1 hv1 => ⟨G1, al1, m1, gs, m2, r1, e2, fun G2 al2 zs H2 ev2 r2 hv2 => ?_⟩⟩
    have n1 : vs.length = n := (hvs_len hv1).trans (hl1 _ _ _ e1)
    have n2 : zs.length = ks.length := (hvs_len hv2).trans (hl2 _ _ _ e2)
    have d1 := looksV_dv (hv1.ev ev2) l1
    have d2 := looksV_dv hv2 l2
    have hdd' : DVs X.kx (Zof G2) al2 dvs dds := hdd.mono (fun a o (z : (none : Option HO) = some o) => nomatch z) (List.nil_prefix)
    refine ⟨n1, n2, callX_core (hnp vs zs n1 n2) r2 (arr_dvs d1 hdd' d2) e3 ?_⟩
    cases d with
    | inl d => exact fun G' al' v H' ev r' dvv => k G' al' v H' ((ev1.trans ev2).trans ev) r' dvv
    | inr q =>
      obtain ⟨c1, fs1⟩ := q
      exact fun G' al' dd H' ev r' hx => k G' al' dd H' ((ev1.trans ev2).trans ev) r' hx
  · cases e
theorem ycX (F : DefGX X.prog X.w X.K X.mg X.base cls j x f fd ps fn) (hr : Room k X.A) (gd : X.A.guards = some []) (hb : KBn X.K fd ps n ks (fun us ws => arr sp us mv ws) (fun vs zs => arr sp vs dvs zs))
    (hdd : DVs X.kx (fun _ => none) [] dvs dds) (ha : SHs cls own X (e :: es) fs) (hkw : SKs cls own X kws fk) (hnp : ∀ vs zs : List V, vs.length = n -> zs.length = ks.length -> (arr sp vs dvs zs).length = ps.length) (hl1 : ∀ m hs m', fs m = .ok hs m' -> hs.length = n) (hl2 : ∀ m hs m', fk m = .ok hs m' -> hs.length = ks.length)
    (hjk : j <= k := by decide) (hg : Gl X x := by rfl)
    (hall : (backToKw pos (keywordEach kws X.env)).all (·.1.isSome) = true := by rfl) (hks : (backToKw pos (keywordEach kws X.env)).filterMap (·.1) = ks := by rfl)
    (hdb : (x == ("__debug__" : Str)) = false := by decide) (he : starEach (e :: es) X.env = (false, eval e X.env) :: starEach es X.env := by rfl)
    (hpl : ((backTo pos (starEach (e :: es) X.env)).any (·.1) || (backToKw pos (keywordEach kws X.env)).any (·.1.isNone)) = false := by rfl) :
    SX cls own X (.Call (.Name x p) (e :: es) kws pos) (eCallX fn sp dds (aVals fs) (aVals fk)) := by
  refine ⟨fun pins s σ H Q I h => ?_⟩
  have h := callKX_core (np := ps.length) hnp hdd hl1 hl2 h
  refine wpAny_Call_Name_kw (ld_glob I hg F.gl ?_ hdb)
  refine PySem.W.callWith_KW (h₀ := X.base) I.ok.mod.kin F.kp hall (thn (ha.run pos pins s σ H _ I h) fun us s1 ⟨vs, H1, I1, r, q⟩ => ?_) hpl he
  refine thn (hkw.run pos pins s1 σ H1 _ I1 q) fun ws s2 ⟨zs, H2, I2, rz, l1, l2, q2⟩ => ⟨I2.kIn, ?_⟩
  rw [hks]
  exact runGX F.ok (hr.mono hjk) gd hb I2 r rz l1 l2 q2
structure MakGX (P : Program) (w : World) (K : PySem.W.Frag) (mg : Str -> Option Value) (base : Heap) (cls : Nat -> Addr) (k : Nat) (c : Nat) (x : Str) (f : Addr) (fd : FuncData) (ps : List Str) (fn : FnX) : Prop where
  ok : FnGX P w K mg base k f fd ps (SpX ⟨K, P, w⟩ cls ps.length fn)
  gl : mg x = some (.ref (cls c))
  mak : Mk K (cls c) f
end
end MI
namespace MI
open PySem PySem.Spec L2 PyProof.Rows
end MI
namespace MI
open PySem PySem.Spec L2
mutual
def low (n : Nat) : D -> Bool
  | .non | .bl _ | .int _ | .str _ | .scr _ => true
  | .obj k => decide (k < n)
  | .tup ds => lows n ds
  | .lst ds => lows n ds
  | _ => false
def lows (n : Nat) : List D -> Bool
  | [] => true
  | d :: ds => low n d && lows n ds
end
def lowO (n : Nat) : O -> Bool
  | .lst ds => lows n ds
  | .dic kvs => lows n (kvs.map Prod.snd)
  | .dit kvs => lows n (kvs.map Prod.fst) && lows n (kvs.map Prod.snd)
  | .ins _ fs => lows n (fs.map Prod.snd)
  | .exc _ fs => lows n (fs.map Prod.snd)
  | .tab _ _ => true
  | .gone => true
section
variable {K : KX} {Z : Hp} {al : List Addr} {n : Nat}
mutual
theorem DV.low : ∀ {v : V} {d : D}, DV K Z al v d -> MI.low n d = true -> DV K Z (al.take n) v d
  | _, _, .non, _ => .non
  | _, _, .bl b, _ => .bl b
  | _, _, .int i, _ => .int i
  | _, _, .str x, _ => .str x
  | _, _, .scr h, _ => .scr h
  | _, _, .tup h r, f => by
    rw [MI.low] at f
    exact .tup h (DVs.low r f)
  | _, _, .lst h r, f => by
    rw [MI.low] at f
    exact .lst h (DVs.low r f)
  | _, _, .dicK _ _ _, f => by rw [MI.low] at f; all_goals (first | cases f | (intros; contradiction))
  | _, _, .ditN _ _ _ _ _ _, f => by rw [MI.low] at f; all_goals (first | cases f | (intros; contradiction))
  | _, _, .obj h, f => by
    rw [MI.low] at f
    exact .obj (by rw [List.getElem?_take_of_lt (of_decide_eq_true f)]; exact h)
theorem DVs.low : ∀ {vs : List V} {ds : List D}, DVs K Z al vs ds -> lows n ds = true -> DVs K Z (al.take n) vs ds
  | _, _, .nil, _ => .nil
  | _, _, .cons h r, f => by
    rw [lows, Bool.and_eq_true] at f
    exact .cons (DV.low h f.1) (DVs.low r f.2)
end
theorem OO.low {cls : Nat -> Addr} {a : Addr} {o : HO} : ∀ {ob : O}, OO K cls Z al a o ob -> lowO n ob = true -> OO K cls Z (al.take n) a o ob
  | .lst ds, h, f => by
    obtain ⟨xs, e, r⟩ := h
    exact ⟨xs, e, r.low f⟩
  | .dic kvs, h, f => by
    have h : CO K Z al a o (.dic kvs) := h
    show CO K Z (al.take n) a o (.dic kvs)
    cases o with
    | dK ks => exact ⟨h.1, h.2.low f⟩
    | _ => exact (show False from h).elim
  | .dit kvs, h, f => by
    have h : CO K Z al a o (.dit kvs) := h
    have f : (lows n (kvs.map Prod.fst) && lows n (kvs.map Prod.snd)) = true := f
    rw [Bool.and_eq_true] at f
    show CO K Z (al.take n) a o (.dit kvs)
    cases o with
    | ext φ =>
      obtain ⟨ob, xs, vs, h1, h2, h3, h4, h5, h6⟩ := h
      exact ⟨ob, xs, vs, h1, h2, h3.low f.1, h4, h5, h6.low f.2⟩
    | _ => exact (show False from h).elim
  | .ins c fs, h, f => by
    obtain ⟨dx, fvs, e, e2, r⟩ := h
    exact ⟨dx, fvs, e, e2, r.low f⟩
  | .exc c fs, h, f => by
    obtain ⟨d, e, x⟩ := h
    refine ⟨d, e, ?_⟩
    rcases x with x | ⟨dx, fvs, e1, z, e2, r⟩
    · exact .inl x
    · exact .inr ⟨dx, fvs, e1, z, e2, r.low f⟩
  | .tab k q, h, _ => h
  | .gone, h, _ => h.elim
end
end MI
namespace MI
open PySem PySem.Spec L2
section
variable {m : MS} {Q : D -> MS -> Prop} {QF : Fl -> MS -> Prop} {QX : Xr -> MS -> Prop} {c i j n k : Nat} {nm q : Str} {own : Nat -> Bool}
theorem w_callX {fn : FnX} {sp : List Src} {dd : List D} {fs fk : Den (List D)} (h : W fs m fun ds m1 => W fk m1 fun es m2 => FSX fn (arr sp ds dd es) m2.st fun d st => QX d ⟨m2.sl, st⟩) : W (eCallX fn sp dd fs fk) m QX := by
  refine w_bind (h.mono fun ds m1 q => w_bind (q.mono fun es m2 hf => ?_))
  obtain ⟨d, st, e5, q⟩ := hf.ex
  refine ⟨d, _, ?_, q⟩
  simp only [e5]
theorem w_setX {f : Den Xr} (h : W f m fun r m1 => match r with | .inl d => QF .nx ⟨m1.sl.set i (some d), m1.st⟩ | .inr z => QF (.xc z.1 z.2) m1) : W (sSetX i f) m QF := by
  refine w_bind (h.mono fun r m1 q => ?_)
  cases r with
  | inl d => exact ⟨_, _, rfl, q⟩
  | inr z => obtain ⟨c, fs⟩ := z; exact ⟨_, _, rfl, q⟩
end
end MI
namespace MI
open PySem PySem.Spec L2 PyProof.Rows
theorem dvs_strs {K : KX} {Z : Hp} {al : List Addr} : ∀ xs : List Str, DVs K Z al (xs.map V.str) (xs.map D.str)
  | [] => .nil
  | x :: xs => .cons (.str x) (dvs_strs xs)
def eSplit (fo fe : Den D) : Den D := fo.bind fun o => fun m0 => match o with
  | .str a => match fe m0 with
    | .ok (.str b) m => if (!(b.length == 0) && fitL (a.length + 2)) = true then .ok (.lst ((Txt.split a b).map .str)) m else .bad
    | _ => .bad
  | _ => .bad
def eParts (fo fe : Den D) : Den D := fo.bind fun o => fun m0 => match o with
  | .str a => match fe m0 with
    | .ok (.str b) m => if (!(b.length == 0) && fitL a.length) = true then .ok (.tup [.str (Txt.partition a b).1, .str (Txt.partition a b).2.1, .str (Txt.partition a b).2.2]) m else .bad
    | _ => .bad
  | _ => .bad
section
variable {X : Cx} {pins : List (Addr × Obj)} {σ : L2.St} {H : Hp} {s : Shared} {Q : VK}
theorem laid_partsF {x y z : Str} {t u v : Tok} {k : Nat} (I : Inv X pins σ H s) (h : ∀ p ob, H p = none -> ob.dict = none -> Q (.ref p) (upd H p (.frz ob (.tup [.str x, .str y, .str z])))) :
    EP X pins σ Q (.ref s.heap.objs.size) { s with toks := k, heap := s.heap.push { cls := .type "tuple", data := .seq [Value.str x t, .str y u, .str z v].toArray } } :=
  ⟨.ref s.heap.objs.size, _, I.laid (t' := k) (o := .frz (newT [Value.str x t, .str y u, .str z v]) (.tup [.str x, .str y, .str z])) (fun b u q => Heap.get?_push_of_some _ q) (Nat.le_refl _)
    (newT_ok (by show 3 <= sizeLine; decide) (.cons ⟨t, rfl⟩ (.cons ⟨u, rfl⟩ (.cons ⟨v, rfl⟩ .nil))) (Heap.get?_push_size _ rfl)), rfl, h _ _ (I.hok.fresh (Nat.le_refl _)) rfl⟩
end
section
variable {X : Cx}
def rPartF : V -> List V -> Hp -> VK -> Prop := fun x xs H Q => ∃ a b, x = .str a /\ xs = [.str b] /\ (b.length == 0) = false /\ a.length <= sizeLine /\
    ∀ p ob, H p = none -> ob.dict = none -> Q (.ref p) (upd H p (.frz ob (.tup [.str (Txt.partition a b).1, .str (Txt.partition a b).2.1, .str (Txt.partition a b).2.2])))
theorem mt_partF : MtR X "str.partition" rPartF := by
  intro pins s σ H x xs v us Q I rx rs h
  obtain ⟨a, b, rfl, rfl, hb, hz, h⟩ := h
  obtain ⟨t, rfl⟩ := rx
  cases rs with
  | cons r1 rs =>
    cases rs
    obtain ⟨u, rfl⟩ := r1
    refine call_meets F.slot_str_partition (typeIs_str _ _ _) F.entry_str_partition (F.args_str_partition_2 _ _) (meets_str_partition a b t u hb hz) ?_
    unfold Txt.partition at h
    revert h
    cases Builtin.Str.occurrences a b 0 a.length 1 with
    | nil => intro h; exact laid_partsF I h
    | cons i r => intro h; exact laid_partsF I h
theorem pe_partF {o e : Expr} {to te : TE} {apos pos : Pos} (ho : PE X o to) (he : PE X e te) (hs : starEach [e] X.env = [(false, eval e X.env)] := by rfl) (hbase : attributeBase o "partition" X.env (eval o X.env) = eval o X.env := by rfl) (hline : (apos.endLine == pos.line) = true := by rfl) :
    PE X (.Call (.Attribute o "partition" apos) [e] [] pos) (tM1 rPartF to te) :=
  L2.pe_m1 F.slot_str_partition F.type_str_partition mt_partF ho he hs hbase hline
end
section
variable {cls : Nat -> Addr} {own : Nat -> Bool} {X : Cx} {o a : Expr} {apos pos : Pos} {fo fe : Den D} {m : MS} {Q : D -> MS -> Prop}
theorem sf_split (ho : SE cls own X o fo) (he : SE cls own X a fe) (hs : starEach [a] X.env = [(false, eval a X.env)] := by rfl) (hbase : attributeBase o "split" X.env (eval o X.env) = eval o X.env := by rfl) (hline : (apos.endLine == pos.line) = true := by rfl) :
    SF cls own X (.Call (.Attribute o "split" apos) [a] [] pos) (eSplit fo fe) := by
  refine pe_imp (pe_split ho he hs hbase hline) fun σ H Q q => ?_
  obtain ⟨G, al, m, d, m', r, e, k⟩ := q
  obtain ⟨dt, m0, e0, e⟩ := bind_ok e
  split at e
  case h_2 => cases e
  next x =>
  split at e
  case h_2 => cases e
  next y m1 e1 =>
  split at e
  case isFalse => cases e
  next hf =>
  cases e
  rw [Bool.and_eq_true, Bool.not_eq_true'] at hf
  refine ⟨G, al, m, _, m0, r, e0, fun G0 al0 v H0 ev0 r0 dv => ?_⟩
  cases dv
  refine ⟨⟨_, rfl⟩, G0, al0, m0, _, _, r0, e1, fun G1 al1 u H1 ev1 r1 hv => ?_⟩
  cases hv
  exact ⟨x, y, rfl, rfl, hf.1, fitL_le hf.2, fun p hp => PostF.lst (fun G2 al2 v2 o2 H2 ev2 r2 h2 n2 c2 => k G2 al2 v2 o2 H2 ((ev0.trans ev1).trans ev2) r2 h2 n2 c2) r1 (dvs_strs _) hp⟩
theorem se_parts (ho : SE cls own X o fo) (he : SE cls own X a fe) (hs : starEach [a] X.env = [(false, eval a X.env)] := by rfl) (hbase : attributeBase o "partition" X.env (eval o X.env) = eval o X.env := by rfl) (hline : (apos.endLine == pos.line) = true := by rfl) :
    SE cls own X (.Call (.Attribute o "partition" apos) [a] [] pos) (eParts fo fe) := by
  refine pe_imp (pe_partF ho he hs hbase hline) fun σ H Q q => ?_
  obtain ⟨G, al, m, d, m', r, e, k⟩ := q
  obtain ⟨dt, m0, e0, e⟩ := bind_ok e
  split at e
  case h_2 => cases e
  next x =>
  split at e
  case h_2 => cases e
  next y m1 e1 =>
  split at e
  case isFalse => cases e
  next hf =>
  cases e
  rw [Bool.and_eq_true, Bool.not_eq_true'] at hf
  refine ⟨G, al, m, _, m0, r, e0, fun G0 al0 v H0 ev0 r0 dv => ?_⟩
  cases dv
  refine ⟨⟨_, rfl⟩, G0, al0, m0, _, _, r0, e1, fun G1 al1 u H1 ev1 r1 hv => ?_⟩
  cases hv
  exact ⟨x, y, rfl, rfl, hf.1, fitL_le hf.2, fun p ob hp hdb => Post.tup (fun G2 al2 v2 H2 ev2 r2 dv2 => k G2 al2 v2 H2 ((ev0.trans ev1).trans ev2) r2 dv2) r1 (.cons (.str _) (.cons (.str _) (.cons (.str _) .nil))) hp hdb⟩
theorem w_split (h : W fo m fun d m1 => ∃ x, d = .str x /\ W fe m1 fun e m2 => ∃ y, e = .str y /\ (!(y.length == 0) && fitL (x.length + 2)) = true /\ Q (.lst ((Txt.split x y).map .str)) m2) : W (eSplit fo fe) m Q := by
  refine w_bind (h.mono fun d m1 ⟨x, e, h1⟩ => ?_)
  subst e
  obtain ⟨d2, m2, e2, y, e3, hf, q⟩ := h1
  subst e3
  refine ⟨_, m2, ?_, q⟩
  show (match fe m1 with | .ok (.str b) m => _ | _ => _) = _
  rw [e2]
  exact if_pos hf
theorem w_parts (h : W fo m fun d m1 => ∃ x, d = .str x /\ W fe m1 fun e m2 => ∃ y, e = .str y /\ (!(y.length == 0) && fitL x.length) = true /\ Q (.tup [.str (Txt.partition x y).1, .str (Txt.partition x y).2.1, .str (Txt.partition x y).2.2]) m2) : W (eParts fo fe) m Q := by
  refine w_bind (h.mono fun d m1 ⟨x, e, h1⟩ => ?_)
  subst e
  obtain ⟨d2, m2, e2, y, e3, hf, q⟩ := h1
  subst e3
  refine ⟨_, m2, ?_, q⟩
  show (match fe m1 with | .ok (.str b) m => _ | _ => _) = _
  rw [e2]
  exact if_pos hf
end
def gStrI : List D -> Option D
  | [.int i] => if i.natAbs.log2 < 1920 then some (.str (toString i)) else none
  | _ => none
def gIntS : List D -> Option D
  | [.str a] => if a.length <= 640 then (PySem.intText? a).map .int else none
  | _ => none
section
variable {cls : Nat -> Addr} {own : Nat -> Bool} {K : KX}
theorem ok_strI : FnOkD K cls own (fun xs H Q => ∃ i, xs = [.int i] /\ i.natAbs.log2 < 1920 /\ Q (.str (toString i)) H) gStrI := by
  intro G al m σ H xs da d Q r hx e k
  unfold gStrI at e
  split at e
  · next i =>
    split at e
    · next hl => cases e; obtain ⟨x, rfl, hc⟩ := hx.one; cases hc.int; exact ⟨i, rfl, hl, k.keep r (.str _)⟩
    · cases e
  · cases e
theorem ok_intS : FnOkD K cls own (fun xs H Q => ∃ a n, xs = [.str a] /\ PySem.intText? a = some n /\ a.length <= 640 /\ Q (.int n) H) gIntS := by
  intro G al m σ H xs da d Q r hx e k
  unfold gIntS at e
  split at e
  · next a =>
    split at e
    · next hl =>
      cases q : PySem.intText? a with
      | none => rw [q] at e; cases e
      | some n => rw [q] at e; cases e; obtain ⟨x, rfl, hc⟩ := hx.one; cases hc.str; exact ⟨a, n, rfl, q, hl, k.keep r (.int _)⟩
    · cases e
  · cases e
end
def chs (x : Str) : List D := x.cps.toList.map fun c => .str ⟨#[c]⟩
def iChars (f : Den D) : Den (List D) := f.bind fun d => fun m => match d with
  | .str x => .ok (chs x) m
  | _ => .bad
section
variable {cls : Nat -> Addr} {own : Nat -> Bool} {X : Cx} {tg a : Expr}
theorem walk_chs {K : KX} {Gs : Gh} {als : List Addr} (x : Str) : WalkD K cls own (Its x) (chs x) Gs als where
  goes := fun G al m σ H i ev rs hi => by
    show i < x.cps.size
    unfold chs at hi
    rw [List.length_map] at hi
    exact hi
  stops := fun G al m σ H ev rs => by
    show x.cps.size <= _
    unfold chs
    rw [List.length_map]
    exact Nat.le_refl _
  yields := fun G al m σ H i y H' d ev rs hd q => by
    obtain ⟨e1, c, e2, e3⟩ := q
    subst e1 e3
    unfold chs at hd
    rw [List.getElem?_map, Array.getElem?_toList, e2] at hd
    cases hd
    exact ⟨G, .refl, rs, .str _, fun _ _ _ q => q⟩
theorem si_chars {f : Den D} (h : SE cls own X a f) : SI cls own X tg a (iChars f) := by
  refine pi_imp (pi_str h) fun σ H R q => ?_
  obtain ⟨G, al, m, ds, m', r, e, k⟩ := q
  obtain ⟨d, m1, e1, e⟩ := bind_ok e
  refine ⟨G, al, m, d, m1, r, e1, fun G1 al1 v H1 ev1 r1 dv => ?_⟩
  split at e
  · next x =>
    cases e
    cases dv
    exact ⟨x, rfl, k G1 al1 H1 _ ev1 r1 (walk_chs x)⟩
  · cases e
theorem w_ichars {f : Den D} {m : MS} {QL : List D -> MS -> Prop} (h : W f m fun d m1 => ∃ x, d = .str x /\ QL (chs x) m1) : W (iChars f) m QL := by
  refine w_bind (h.mono fun d m1 ⟨x, e, q⟩ => ?_)
  subst e
  exact ⟨_, m1, rfl, q⟩
end
def gMulZ : D -> D -> Option D
  | .str s, .int n => if 1 <= n /\ n <= 10000 /\ s.length <= 100 then some (.str (repS s n.toNat)) else none
  | _, _ => none
def rMulZ : R2 := fun x y H Q => ∃ s n, x = .str s /\ y = .int n /\ 1 <= n /\ n <= 10000 /\ s.length <= 100 /\ Q (.str (repS s n.toNat)) H
theorem op_mulZ {X : Cx} : OpR X (binaryOp .Mult) rMulZ := by
  intro pins s σ H x y v u Q I rx ry h
  obtain ⟨i, k, rfl, rfl, h1, h2, h3, q⟩ := h
  obtain ⟨t, rfl⟩ := rx
  obtain ⟨t', rfl⟩ := ry
  have hk : k.toNat <= 10000 := by omega
  have hm : i.length * k.toNat <= 100 * 10000 := Nat.mul_le_mul h3 hk
  refine PySem.P.mul_str (by rw [decide_eq_false (by omega), decide_eq_false (by omega)]; rfl) (fun _ _ hg => ?_) (fun _ _ => ?_) ?_
  · have h4 : (100 : Int) <= (2 ^ 63 - 1) / k := by
      rw [Int.le_ediv_iff_mul_le (by omega)]
      omega
    omega
  · unfold Builtin.Str.tooLong
    rw [sizeLine_eq]
    exact decide_eq_false (by omega)
  · rw [if_neg (by omega)]
    split
    · next hc =>
      show EP _ _ _ _ _ _
      have he : repS i k.toNat = i := by
        cases i with
        | mk a =>
        rcases Bool.or_eq_true_iff.mp hc with hc | hc
        · have : k = 1 := by simpa using hc
          subst this
          show Str.mk (#[] ++ a) = _
          rw [Array.empty_append]
        · have ha : a = #[] := by
            have : a.size = 0 := by simpa [Str.length] using hc
            exact Array.eq_empty_of_size_eq_zero this
          subst ha
          show Str.mk _ = _
          congr 1
          apply Array.eq_empty_of_size_eq_zero
          show ((List.replicate k.toNat (#[] : Array Nat)).foldl (· ++ ·) #[]).size = 0
          rw [size_rpS]; simp
      rw [he] at q
      exact ⟨.str i, H, I, ⟨_, rfl⟩, q⟩
    · refine ⟨?_, .str (repS i k.toNat), H, I.tok _, ⟨_, rfl⟩, q⟩
      show ((List.replicate k.toNat i.cps).foldl (· ++ ·) #[]).size <= _
      rw [size_rpS, sizeLine_eq]
      have : i.cps.size = i.length := rfl
      rw [this, Nat.mul_comm]
      simp
      omega
section
variable {K : KX} {cls : Nat -> Addr} {own : Nat -> Bool}
theorem ok_mulZ : OpOk K cls own rMulZ gMulZ := by
  intro G al m σ H x y da db d Q r hx hy e k
  unfold gMulZ at e
  split at e
  · next i j =>
    split at e
    · next hf => cases e; cases hx.str; cases hy.int; exact ⟨i, j, rfl, rfl, hf.1, hf.2.1, hf.2.2, k.keep r (.str _)⟩
    · cases e
  · cases e
end
end MI
namespace Lk77
open PySem PySem.Spec L2 MI
local macro_rules | `(tactic| ac_nf) => `(tactic| first | exact .inl rfl | exact .inr rfl | exact .inr (.inl rfl) | exact .inr (.inr rfl))
structure Mod (K : KX) (mg : Str -> Option Value) (cls : Nat -> Addr) : Prop where
  cl_World : Cls K.K (cls 0)
  na_World_done : NoAttr K.K (cls 0) "done"
  na_World_leads : NoAttr K.K (cls 0) "leads"
  m_ValueError : mg "ValueError" = none
  m_abs : mg "abs" = none
  m_all : mg "all" = none
  m_bool : mg "bool" = none
  m_enumerate : mg "enumerate" = none
  m_int : mg "int" = none
  m_isinstance : mg "isinstance" = none
  m_len : mg "len" = none
  m_max : mg "max" = none
  m_min : mg "min" = none
  m_range : mg "range" = none
  m_repr : mg "repr" = none
  m_set : mg "set" = none
  m_sorted : mg "sorted" = none
  m_str : mg "str" = none
  m_tuple : mg "tuple" = none
  gx_Missing : mg "Missing" = some (.ref (cls 101))
  gx_NoText : mg "NoText" = some (.ref (cls 103))
  gx_Refused : mg "Refused" = some (.ref (cls 100))
  cx_Refused_Missing : ∀ c ∈ ([103] : List Nat), PySem.W.exmAny K.K (.ref (cls c)) [.ref (cls 100), .ref (cls 101)] = some true
  is_NoText : IsC K.K cls [(103, true)] (.ref (cls 103))
  xc_all : ∀ c ∈ ([103] : List Nat), ExcC K.K (cls c)
  xf_row : ∀ c ∈ ([103] : List Nat), ExcC K.K (cls c) /\ PySem.W.findIn K.K (.ref (cls c)) "row" = some none
  is_ValueError : IsC K.K cls [(103, true)] (.type "ValueError")
  g_FIGURES : GC K mg "FIGURES" (.str "0123456789")
  g_JOIN : GC K mg "JOIN" (.str "join")
  g_LETTERS : GC K mg "LETTERS" (.str "abcdefghijklmnopqrstuvwxyz")
section
variable {P : Program} {w : World} {K : PySem.W.Frag} {mg : Str -> Option Value} {base : Heap} {cls : Nat -> Addr}
abbrev n_is_number : List Str := ["thing", "least"]
theorem sc_is_number : FnScope n_is_number ["thing", "least"] (defScope st_is_number) := ⟨rfl, rfl, rfl, by decide +kernel, rfl, by decide +kernel, by decide +kernel⟩
def d_is_number : Den Fl := sRet (eAnd (eUn (gIsi .int) (hVal (eVar 0))) (eAnd (eNot (eUn (gIsi .bl) (hVal (eVar 0)))) (eOp gGe (hVal (eVar 0)) (hVal (eVar 1)))))
def fn_is_number : Fn := runFn 2 d_is_number
set_option maxRecDepth 100000 in
theorem ok_is_number {f : Addr} {fd : FuncData}   (C : Mod ⟨K, P, w⟩ mg cls) (F : FunD K "is_number" "is_number" (defArgs st_is_number) (defBody st_is_number) (defScope st_is_number) [] [("least", .int 0)] f fd) :
    FnG P w K mg base 1 f fd ["thing", "least"] (SpD ⟨K, P, w⟩ cls 2 fn_is_number) := by
  refine fn_okG (N := n_is_number) (den := d_is_number) (own := ownL []) F sc_is_number (by decide) fun cdv A outer s H E hr gd => ?_
  exact ss_one (ss_ret (se_and (se_isi (T := .int) (by decide) rfl C.m_isinstance rfl C.m_int bt_int (sh_val (xv))) (se_and (se_not (se_isi (T := .bl) (by decide) rfl C.m_isinstance rfl C.m_bool bt_bool (sh_val (xv)))) (se_one (se_cmp op_ge ok_I (sh_val (xv)) (sh_val (xv)))))))
abbrev n_is_name : List Str := ["thing", "sign"]
theorem sc_is_name : FnScope n_is_name ["thing"] (defScope st_is_name) := ⟨rfl, rfl, rfl, by decide +kernel, rfl, by decide +kernel, by decide +kernel⟩
def d_is_name : Den Fl := sSeq (sIf (bOr (bNot (bTru (hVal (eUn (gIsi .str) (hVal (eVar 0)))))) (bOr (bNot (bChain gLt gLt (hVal (eC (.int 0))) (hVal (eFn gLen (aCons (hVal (eVar 0)) (aNil)))) (hVal (eC (.int 9))))) (bOf (eOp gEq (hVal (eVar 0)) (hVal (eC (.str "join"))))))) (sRet (eC (.bl false))) (sNx)) (sRet (eFn gAll (aCons (hVal (eLc (iChars (eVar 0)) [1] (.nm 1) (.ret true) (eOp gInA (hVal (eVar 1)) (hVal (eC (.str "abcdefghijklmnopqrstuvwxyz")))))) (aNil))))
def fn_is_name : Fn := runFn 2 d_is_name
set_option maxRecDepth 100000 in
theorem ok_is_name {f : Addr} {fd : FuncData}   (C : Mod ⟨K, P, w⟩ mg cls) (F : FunD K "is_name" "is_name" (defArgs st_is_name) (defBody st_is_name) (defScope st_is_name) [] [] f fd) :
    FnG P w K mg base 1 f fd ["thing"] (SpD ⟨K, P, w⟩ cls 1 fn_is_name) := by
  refine fn_okG (N := n_is_name) (den := d_is_name) (own := ownL []) F sc_is_name (by decide) fun cdv A outer s H E hr gd => ?_
  have hu := huO hr
  have h4 := Nat.lt_of_succ_lt hu
  exact ss_cons (ss_if (sb_w (sw_or (sb_not (sb_tru (sh_val (se_isi (T := .str) (by decide) rfl C.m_isinstance rfl C.m_str bt_str (sh_val (xv)))))) (sw_or (sb_not (sb_chain op_ltU ok_lt op_ltU ok_lt (sh_val (se_int)) (sh_val (se_callB cr_lenU ok_len rfl C.m_len bt_len (sa_cons (sh_val (xv)) (sa_nil)))) (sh_val (se_int)))) (sw_or1 (sb_cmp (op_eqD h4) ok_eqD (sh_val (xv)) (sh_val (xg C.g_JOIN))))))) (ss_one (ss_ret (se_bl))) (ss_nil)) (ss_one (ss_ret (se_callB (cr_all rfl) ok_all rfl C.m_all bt_all (sa_cons (sh_val (se_of (sf_lc (ow := [("sign", 1)]) rfl sc_is_name.nd (si_chars (xv)) (blkOk_by (by kernel_rfl)) (fun _ _ _ _ _ => sg_name (i := 1) rfl sc_is_name.nd rfl (by ac_nf)) (fun _ _ _ _ _ => sbs_nil) (fun _ _ _ _ _ => se_cmp (op_inA hu) ok_inA (sh_val (xv)) (sh_val (xg C.g_LETTERS))) (by decide) (by decide)))) (sa_nil)))))
abbrev n_World__called : List Str := ["self", "house"]
theorem sc_World__called : FnScope n_World__called ["self", "house"] (defScope st_World__called) := ⟨rfl, rfl, rfl, by decide +kernel, rfl, by decide +kernel, by decide +kernel⟩
def d_World__called : Den Fl := sSeq (sWhile (bOf (eOp gInA (hVal (eVar 1)) (hVal (eFld 0 (eVar 0) "leads")))) (sSet 1 (eOp gIxA (hVal (eFld 0 (eVar 0) "leads")) (hVal (eVar 1)))) 1000) (sRet (eVar 1))
def fn_World__called : Fn := runFn 2 d_World__called
set_option maxRecDepth 100000 in
theorem ok_World__called {f : Addr} {fd : FuncData}   (C : Mod ⟨K, P, w⟩ mg cls) (F : FunD K "called" "World.called" (defArgs st_World__called) (defBody st_World__called) (defScope st_World__called) [] [] f fd) :
    FnG P w K mg base 1 f fd ["self", "house"] (SpD ⟨K, P, w⟩ cls 2 fn_World__called) := by
  refine fn_okG (N := n_World__called) (den := d_World__called) (own := ownL []) F sc_World__called (by decide) fun cdv A outer s H E hr gd => ?_
  have hu := huO hr
  exact ss_cons (ss_while PassesOwn.never (sb_cmp (op_inA hu) ok_inA (sh_val (xv)) (sh_val (se_fld C.cl_World C.na_World_leads (xv)))) (ss_one (ss_set (i := 1) rfl sc_World__called.nd rfl (by ac_nf) (se_ixA hu (sh_val (se_fld C.cl_World C.na_World_leads (xv))) (sh_val (xv)) (by intro _ _; rfl))))) (ss_one (ss_ret (xv)))
abbrev n_show_letter : List Str := ["letter", "word", "house", "other", "joint"]
theorem sc_show_letter : FnScope n_show_letter ["letter"] (defScope st_show_letter) := ⟨rfl, rfl, rfl, by decide +kernel, rfl, by decide +kernel, by decide +kernel⟩
def d_show_letter : Den Fl := sSeq (sAsg (.tp [.nm 1, .nm 2, .nm 3]) (eVar 0)) (sSeq (sSet 4 (eIf (bOf (eOp gEq (hVal (eVar 1)) (hVal (eC (.str "join"))))) (eC (.str " ")) (eC (.str ".")))) (sRet (eOp gAdd (hVal (eOp gAdd (hVal (eOp gAdd (hVal (eOp gAdd (hVal (eVar 1)) (hVal (eC (.str " "))))) (hVal (eFn gStrI (aCons (hVal (eVar 2)) (aNil)))))) (hVal (eVar 4)))) (hVal (eFn gStrI (aCons (hVal (eVar 3)) (aNil)))))))
def fn_show_letter : Fn := runFn 5 d_show_letter
set_option maxRecDepth 100000 in
theorem ok_show_letter {f : Addr} {fd : FuncData}   (C : Mod ⟨K, P, w⟩ mg cls) (F : FunD K "show_letter" "show_letter" (defArgs st_show_letter) (defBody st_show_letter) (defScope st_show_letter) [] [] f fd) :
    FnG P w K mg base 1 f fd ["letter"] (SpD ⟨K, P, w⟩ cls 1 fn_show_letter) := by
  refine fn_okG (N := n_show_letter) (den := d_show_letter) (own := ownL []) F sc_show_letter (by decide) fun cdv A outer s H E hr gd => ?_
  have hu := huO hr
  have h4 := Nat.lt_of_succ_lt hu
  exact ss_cons (ss_asg (xv) (sg_tup rfl (sgs_cons (sg_name (i := 1) rfl sc_show_letter.nd rfl (by ac_nf)) (sgs_cons (sg_name (i := 2) rfl sc_show_letter.nd rfl (by ac_nf)) (sgs_cons (sg_name (i := 3) rfl sc_show_letter.nd rfl (by ac_nf)) (sgs_nil)))) rfl)) (ss_cons (ss_set (i := 4) rfl sc_show_letter.nd rfl (by ac_nf) (se_if (sb_cmp (op_eqD h4) ok_eqD (sh_val (xv)) (sh_val (xg C.g_JOIN))) (se_str) (se_str))) (ss_one (ss_ret (se_op2 op_addU ok_add (sh_val (se_op2 op_addU ok_add (sh_val (se_op2 op_addU ok_add (sh_val (se_op2 op_addU ok_add (sh_val (xv)) (sh_val (se_str)))) (sh_val (se_callTy call_str_int ok_strI rfl C.m_str bt_str (sa_cons (sh_val (xv)) (sa_nil)))))) (sh_val (xv)))) (sh_val (se_callTy call_str_int ok_strI rfl C.m_str bt_str (sa_cons (sh_val (xv)) (sa_nil))))))))
abbrev n_read_number : List Str := ["text", "sign"]
theorem sc_read_number : FnScope n_read_number ["text"] (defScope st_read_number) := ⟨rfl, rfl, rfl, by decide +kernel, rfl, by decide +kernel, by decide +kernel⟩
def d_read_number : Den Fl := sSeq (sIf (bOr (bNot (bChain gLt gLt (hVal (eC (.int 0))) (hVal (eFn gLen (aCons (hVal (eVar 0)) (aNil)))) (hVal (eC (.int 10))))) (bNot (bTru (hVal (eFn gAll (aCons (hVal (eLc (iChars (eVar 0)) [1] (.nm 1) (.ret true) (eOp gInA (hVal (eVar 1)) (hVal (eC (.str "0123456789")))))) (aNil))))))) (sRet (eC .non)) (sNx)) (sRet (eIf (bOr (bOf (eOp gEq (hVal (eVar 0)) (hVal (eC (.str "0"))))) (bOf (eOp gNe (hVal (eOp gIxA (hVal (eVar 0)) (hVal (eC (.int 0))))) (hVal (eC (.str "0")))))) (eFn gIntS (aCons (hVal (eVar 0)) (aNil))) (eC .non)))
def fn_read_number : Fn := runFn 2 d_read_number
set_option maxRecDepth 100000 in
theorem ok_read_number {f : Addr} {fd : FuncData}   (C : Mod ⟨K, P, w⟩ mg cls) (F : FunD K "read_number" "read_number" (defArgs st_read_number) (defBody st_read_number) (defScope st_read_number) [] [] f fd) :
    FnG P w K mg base 1 f fd ["text"] (SpD ⟨K, P, w⟩ cls 1 fn_read_number) := by
  refine fn_okG (N := n_read_number) (den := d_read_number) (own := ownL []) F sc_read_number (by decide) fun cdv A outer s H E hr gd => ?_
  have hu := huO hr
  have h4 := Nat.lt_of_succ_lt hu
  exact ss_cons (ss_if (sb_w (sw_or (sb_not (sb_chain op_ltU ok_lt op_ltU ok_lt (sh_val (se_int)) (sh_val (se_callB cr_lenU ok_len rfl C.m_len bt_len (sa_cons (sh_val (xv)) (sa_nil)))) (sh_val (se_int)))) (sw_or1 (sb_not (sb_tru (sh_val (se_callB (cr_all rfl) ok_all rfl C.m_all bt_all (sa_cons (sh_val (se_of (sf_lc (ow := [("sign", 1)]) rfl sc_read_number.nd (si_chars (xv)) (blkOk_by (by kernel_rfl)) (fun _ _ _ _ _ => sg_name (i := 1) rfl sc_read_number.nd rfl (by ac_nf)) (fun _ _ _ _ _ => sbs_nil) (fun _ _ _ _ _ => se_cmp (op_inA hu) ok_inA (sh_val (xv)) (sh_val (xg C.g_FIGURES))) (by decide) (by decide)))) (sa_nil))))))))) (ss_one (ss_ret (se_non))) (ss_nil)) (ss_one (ss_ret (se_if (sb_w (sw_or (sb_cmp (op_eqD h4) ok_eqD (sh_val (xv)) (sh_val (se_str))) (sw_or1 (sb_cmp (op_neD h4) ok_neD (sh_val (se_ixA hu (sh_val (xv)) (sh_val (se_int)) (by intro _ _; rfl))) (sh_val (se_str)))))) (se_callTy call_int_str ok_intS rfl C.m_int bt_int (sa_cons (sh_val (xv)) (sa_nil))) (se_non))))
abbrev n__law_hand : List Str := ["_law_script", "_law_k", "_law_cell", "_law_great"]
theorem sc__law_hand : FnScope n__law_hand ["_law_script", "_law_k"] (defScope st__law_hand) := ⟨rfl, rfl, rfl, by decide +kernel, rfl, by decide +kernel, by decide +kernel⟩
def d__law_hand : Den Fl := sSeq (sSet 2 (eIf (bOf (eOp gLt (hVal (eVar 1)) (hVal (eFn gLen (aCons (hVal (eVar 0)) (aNil)))))) (eOp gIxA (hVal (eVar 0)) (hVal (eVar 1))) (eC (.int 0)))) (sSeq (sSet 3 (eIf (bOf (eOp gGe (hVal (eFn gAbs (aCons (hVal (eVar 2)) (aNil)))) (hVal (eOp gPow (hVal (eC (.int 10))) (hVal (eC (.int 18))))))) (eOp gMod (hVal (eFn gAbs (aCons (hVal (eVar 2)) (aNil)))) (hVal (eOp gMul (hVal (eOp gMul (hVal (eOp gPow (hVal (eC (.int 10))) (hVal (eC (.int 60))))) (hVal (eOp gPow (hVal (eC (.int 10))) (hVal (eC (.int 60))))))) (hVal (eOp gPow (hVal (eC (.int 10))) (hVal (eC (.int 60)))))))) (eC (.int 0)))) (sRet (eShare (eLst (aCons (hVal (eVar 3)) (aCons (hVal (eOp gMod (hVal (eOp gAdd (hVal (eOp gAdd (hVal (eOp gMul (hVal (eOp gMod (hVal (eVar 2)) (hVal (eC (.int 2305843009213693951))))) (hVal (eC (.int 1000033))))) (hVal (eOp gMul (hVal (eC (.int 6857))) (hVal (eVar 1)))))) (hVal (eC (.int 41))))) (hVal (eC (.int 2305843009213693921))))) (aCons (hVal (eC (.int 0))) (aNil))))))))
def fn__law_hand : Fn := runFn 4 d__law_hand
set_option maxRecDepth 100000 in
theorem ok__law_hand {f : Addr} {fd : FuncData}   (C : Mod ⟨K, P, w⟩ mg cls) (F : FunD K "_law_hand" "_law_hand" (defArgs st__law_hand) (defBody st__law_hand) (defScope st__law_hand) [] [] f fd) :
    FnG P w K mg base 1 f fd ["_law_script", "_law_k"] (SpD ⟨K, P, w⟩ cls 2 fn__law_hand) := by
  refine fn_okG (N := n__law_hand) (den := d__law_hand) (own := ownL []) F sc__law_hand (by decide) fun cdv A outer s H E hr gd => ?_
  have hu := huO hr
  exact ss_cons (ss_set (i := 2) rfl sc__law_hand.nd rfl (by ac_nf) (se_if (sb_cmp op_ltU ok_lt (sh_val (xv)) (sh_val (se_callB cr_lenU ok_len rfl C.m_len bt_len (sa_cons (sh_val (xv)) (sa_nil))))) (se_ixA hu (sh_val (xv)) (sh_val (xv)) (by intro _ _; rfl)) (se_int))) (ss_cons (ss_set (i := 3) rfl sc__law_hand.nd rfl (by ac_nf) (se_if (sb_cmp op_ge ok_I (sh_val (se_callB call_abs ok_abs rfl C.m_abs bt_abs (sa_cons (sh_val (xv)) (sa_nil)))) (sh_val (se_op2 op_pow ok_pow (sh_val (se_int)) (sh_val (se_int))))) (se_op2 op_modN ok_mod (sh_val (se_callB call_abs ok_abs rfl C.m_abs bt_abs (sa_cons (sh_val (xv)) (sa_nil)))) (sh_val (se_op2 op_mulU ok_mul (sh_val (se_op2 op_mulU ok_mul (sh_val (se_op2 op_pow ok_pow (sh_val (se_int)) (sh_val (se_int)))) (sh_val (se_op2 op_pow ok_pow (sh_val (se_int)) (sh_val (se_int)))))) (sh_val (se_op2 op_pow ok_pow (sh_val (se_int)) (sh_val (se_int))))))) (se_int))) (ss_one (ss_ret (se_share (sf_lst (sa_cons (sh_val (xv)) (sa_cons (sh_val (se_op2 op_modN ok_mod (sh_val (se_op2 op_addU ok_add (sh_val (se_op2 op_addU ok_add (sh_val (se_op2 op_mulU ok_mul (sh_val (se_op2 op_modN ok_mod (sh_val (xv)) (sh_val (se_int)))) (sh_val (se_int)))) (sh_val (se_op2 op_mulU ok_mul (sh_val (se_int)) (sh_val (xv)))))) (sh_val (se_int)))) (sh_val (se_int)))) (sa_cons (sh_val (se_int)) (sa_nil)))))))))
abbrev n__law_take : List Str := ["_law_hand_here", "_law_many", "_law_digit", "_law_turn", "_law_one", "_law_two", "_law_mixed", "_law_last"]
theorem sc__law_take : FnScope n__law_take ["_law_hand_here", "_law_many"] (defScope st__law_take) := ⟨rfl, rfl, rfl, by decide +kernel, rfl, by decide +kernel, by decide +kernel⟩
def d__law_take : Den Fl := sSeq (sIf (bOf (eOp gGt (hVal (eOp gIxA (hVal (eVar 0)) (hVal (eC (.int 0))))) (hVal (eC (.int 0))))) (sSeq (sSet 2 (eOp gMod (hVal (eOp gIxA (hVal (eVar 0)) (hVal (eC (.int 0))))) (hVal (eVar 1)))) (sSeq (sPutO (eVar 0) (hVal (eC (.int 0))) (eOp gDiv (hVal (eOp gIxA (hVal (eVar 0)) (hVal (eC (.int 0))))) (hVal (eVar 1)))) (sRet (eVar 2)))) (sNx)) (sSeq (sSet 3 (eOp gAdd (hVal (eOp gIxA (hVal (eVar 0)) (hVal (eC (.int 2))))) (hVal (eC (.int 1))))) (sSeq (sPutO (eVar 0) (hVal (eC (.int 2))) (eVar 3)) (sSeq (sSet 4 (eOp gAdd (hVal (eOp gIxA (hVal (eVar 0)) (hVal (eC (.int 1))))) (hVal (eOp gMul (hVal (eC (.int 15485867))) (hVal (eVar 3)))))) (sSeq (sSet 5 (eOp gAdd (hVal (eOp gAdd (hVal (eOp gMod (hVal (eOp gIxA (hVal (eVar 0)) (hVal (eC (.int 1))))) (hVal (eC (.int 7907))))) (hVal (eOp gMul (hVal (eC (.int 32452867))) (hVal (eVar 3)))))) (hVal (eC (.int 19))))) (sSeq (sSet 6 (eOp gMod (hVal (eOp gMul (hVal (eVar 4)) (hVal (eVar 5)))) (hVal (eC (.int 2305843009213693951))))) (sSeq (sSet 7 (eOp gAdd (hVal (eOp gAdd (hVal (eOp gMod (hVal (eVar 6)) (hVal (eC (.int 1000003))))) (hVal (eOp gMul (hVal (eC (.int 6700441))) (hVal (eVar 3)))))) (hVal (eC (.int 7))))) (sRet (eOp gMod (hVal (eOp gDiv (hVal (eOp gMod (hVal (eOp gMul (hVal (eOp gAdd (hVal (eVar 6)) (hVal (eC (.int 11))))) (hVal (eVar 7)))) (hVal (eC (.int 2305843009213693907))))) (hVal (eC (.int 64))))) (hVal (eVar 1))))))))))
def fn__law_take : Fn := runFn 8 d__law_take
set_option maxRecDepth 100000 in
theorem ok__law_take {f : Addr} {fd : FuncData}   (C : Mod ⟨K, P, w⟩ mg cls) (F : FunD K "_law_take" "_law_take" (defArgs st__law_take) (defBody st__law_take) (defScope st__law_take) [] [] f fd) :
    FnG P w K mg base 1 f fd ["_law_hand_here", "_law_many"] (SpD ⟨K, P, w⟩ cls 2 fn__law_take) := by
  refine fn_okG (N := n__law_take) (den := d__law_take) (own := ownL []) F sc__law_take (by decide) fun cdv A outer s H E hr gd => ?_
  have hu := huO hr
  exact ss_cons (ss_if (sb_cmp op_gt ok_I (sh_val (se_ixA hu (sh_val (xv)) (sh_val (se_int)) (by intro _ _; rfl))) (sh_val (se_int))) (ss_cons (ss_set (i := 2) rfl sc__law_take.nd rfl (by ac_nf) (se_op2 op_modN ok_mod (sh_val (se_ixA hu (sh_val (xv)) (sh_val (se_int)) (by intro _ _; rfl))) (sh_val (xv)))) (ss_cons (ss_putO hu (xv) (sh_val (se_int)) (se_op2 op_fdivW ok_div (sh_val (se_ixA hu (sh_val (xv)) (sh_val (se_int)) (by intro _ _; rfl))) (sh_val (xv)))) (ss_one (ss_ret (xv))))) (ss_nil)) (ss_cons (ss_set (i := 3) rfl sc__law_take.nd rfl (by ac_nf) (se_op2 op_addU ok_add (sh_val (se_ixA hu (sh_val (xv)) (sh_val (se_int)) (by intro _ _; rfl))) (sh_val (se_int)))) (ss_cons (ss_putO hu (xv) (sh_val (se_int)) (xv)) (ss_cons (ss_set (i := 4) rfl sc__law_take.nd rfl (by ac_nf) (se_op2 op_addU ok_add (sh_val (se_ixA hu (sh_val (xv)) (sh_val (se_int)) (by intro _ _; rfl))) (sh_val (se_op2 op_mulU ok_mul (sh_val (se_int)) (sh_val (xv)))))) (ss_cons (ss_set (i := 5) rfl sc__law_take.nd rfl (by ac_nf) (se_op2 op_addU ok_add (sh_val (se_op2 op_addU ok_add (sh_val (se_op2 op_modN ok_mod (sh_val (se_ixA hu (sh_val (xv)) (sh_val (se_int)) (by intro _ _; rfl))) (sh_val (se_int)))) (sh_val (se_op2 op_mulU ok_mul (sh_val (se_int)) (sh_val (xv)))))) (sh_val (se_int)))) (ss_cons (ss_set (i := 6) rfl sc__law_take.nd rfl (by ac_nf) (se_op2 op_modN ok_mod (sh_val (se_op2 op_mulU ok_mul (sh_val (xv)) (sh_val (xv)))) (sh_val (se_int)))) (ss_cons (ss_set (i := 7) rfl sc__law_take.nd rfl (by ac_nf) (se_op2 op_addU ok_add (sh_val (se_op2 op_addU ok_add (sh_val (se_op2 op_modN ok_mod (sh_val (xv)) (sh_val (se_int)))) (sh_val (se_op2 op_mulU ok_mul (sh_val (se_int)) (sh_val (xv)))))) (sh_val (se_int)))) (ss_one (ss_ret (se_op2 op_modN ok_mod (sh_val (se_op2 op_fdivW ok_div (sh_val (se_op2 op_modN ok_mod (sh_val (se_op2 op_mulU ok_mul (sh_val (se_op2 op_addU ok_add (sh_val (xv)) (sh_val (se_int)))) (sh_val (xv)))) (sh_val (se_int)))) (sh_val (se_int)))) (sh_val (xv)))))))))))
abbrev n__law_called : List Str := ["_law_leads", "_law_house"]
theorem sc__law_called : FnScope n__law_called ["_law_leads", "_law_house"] (defScope st__law_called) := ⟨rfl, rfl, rfl, by decide +kernel, rfl, by decide +kernel, by decide +kernel⟩
def d__law_called : Den Fl := sSeq (sWhile (bOf (eOp gInA (hVal (eVar 1)) (hVal (eVar 0)))) (sSet 1 (eOp gIxA (hVal (eVar 0)) (hVal (eVar 1)))) 1000) (sRet (eVar 1))
def fn__law_called : Fn := runFn 2 d__law_called
set_option maxRecDepth 100000 in
theorem ok__law_called {f : Addr} {fd : FuncData}   (C : Mod ⟨K, P, w⟩ mg cls) (F : FunD K "_law_called" "_law_called" (defArgs st__law_called) (defBody st__law_called) (defScope st__law_called) [] [] f fd) :
    FnG P w K mg base 1 f fd ["_law_leads", "_law_house"] (SpD ⟨K, P, w⟩ cls 2 fn__law_called) := by
  refine fn_okG (N := n__law_called) (den := d__law_called) (own := ownL []) F sc__law_called (by decide) fun cdv A outer s H E hr gd => ?_
  have hu := huO hr
  exact ss_cons (ss_while PassesOwn.never (sb_cmp (op_inA hu) ok_inA (sh_val (xv)) (sh_val (xv))) (ss_one (ss_set (i := 1) rfl sc__law_called.nd rfl (by ac_nf) (se_ixA hu (sh_val (xv)) (sh_val (xv)) (by intro _ _; rfl))))) (ss_one (ss_ret (xv)))
abbrev n__law_number : List Str := ["_law_word", "_law_sign"]
theorem sc__law_number : FnScope n__law_number ["_law_word"] (defScope st__law_number) := ⟨rfl, rfl, rfl, by decide +kernel, rfl, by decide +kernel, by decide +kernel⟩
def d__law_number : Den Fl := sSeq (sIf (bOr (bNot (bChain gLt gLt (hVal (eC (.int 0))) (hVal (eFn gLen (aCons (hVal (eVar 0)) (aNil)))) (hVal (eC (.int 10))))) (bNot (bTru (hVal (eFn gAll (aCons (hVal (eLc (iChars (eVar 0)) [1] (.nm 1) (.ret true) (eOp gInA (hVal (eVar 1)) (hVal (eC (.str "0123456789")))))) (aNil))))))) (sRet (eC .non)) (sNx)) (sRet (eIf (bOr (bOf (eOp gEq (hVal (eVar 0)) (hVal (eC (.str "0"))))) (bOf (eOp gNe (hVal (eOp gIxA (hVal (eVar 0)) (hVal (eC (.int 0))))) (hVal (eC (.str "0")))))) (eFn gIntS (aCons (hVal (eVar 0)) (aNil))) (eC .non)))
def fn__law_number : Fn := runFn 2 d__law_number
set_option maxRecDepth 100000 in
theorem ok__law_number {f : Addr} {fd : FuncData}   (C : Mod ⟨K, P, w⟩ mg cls) (F : FunD K "_law_number" "_law_number" (defArgs st__law_number) (defBody st__law_number) (defScope st__law_number) [] [] f fd) :
    FnG P w K mg base 1 f fd ["_law_word"] (SpD ⟨K, P, w⟩ cls 1 fn__law_number) := by
  refine fn_okG (N := n__law_number) (den := d__law_number) (own := ownL []) F sc__law_number (by decide) fun cdv A outer s H E hr gd => ?_
  have hu := huO hr
  have h4 := Nat.lt_of_succ_lt hu
  exact ss_cons (ss_if (sb_w (sw_or (sb_not (sb_chain op_ltU ok_lt op_ltU ok_lt (sh_val (se_int)) (sh_val (se_callB cr_lenU ok_len rfl C.m_len bt_len (sa_cons (sh_val (xv)) (sa_nil)))) (sh_val (se_int)))) (sw_or1 (sb_not (sb_tru (sh_val (se_callB (cr_all rfl) ok_all rfl C.m_all bt_all (sa_cons (sh_val (se_of (sf_lc (ow := [("_law_sign", 1)]) rfl sc__law_number.nd (si_chars (xv)) (blkOk_by (by kernel_rfl)) (fun _ _ _ _ _ => sg_name (i := 1) rfl sc__law_number.nd rfl (by ac_nf)) (fun _ _ _ _ _ => sbs_nil) (fun _ _ _ _ _ => se_cmp (op_inA hu) ok_inA (sh_val (xv)) (sh_val (se_str))) (by decide) (by decide)))) (sa_nil))))))))) (ss_one (ss_ret (se_non))) (ss_nil)) (ss_one (ss_ret (se_if (sb_w (sw_or (sb_cmp (op_eqD h4) ok_eqD (sh_val (xv)) (sh_val (se_str))) (sw_or1 (sb_cmp (op_neD h4) ok_neD (sh_val (se_ixA hu (sh_val (xv)) (sh_val (se_int)) (by intro _ _; rfl))) (sh_val (se_str)))))) (se_callTy call_int_str ok_intS rfl C.m_int bt_int (sa_cons (sh_val (xv)) (sa_nil))) (se_non))))
abbrev n__law_row : List Str := ["_law_letter_here"]
theorem sc__law_row : FnScope n__law_row ["_law_letter_here"] (defScope st__law_row) := ⟨rfl, rfl, rfl, by decide +kernel, rfl, by decide +kernel, by decide +kernel⟩
def d__law_row : Den Fl := sSeq (sIf (bOf (eOp gEq (hVal (eOp gIxA (hVal (eVar 0)) (hVal (eC (.int 0))))) (hVal (eC (.str "join"))))) (sRet (eOp gAdd (hVal (eOp gAdd (hVal (eOp gAdd (hVal (eC (.str "join "))) (hVal (eFn gStrI (aCons (hVal (eOp gIxA (hVal (eVar 0)) (hVal (eC (.int 1))))) (aNil)))))) (hVal (eC (.str " "))))) (hVal (eFn gStrI (aCons (hVal (eOp gIxA (hVal (eVar 0)) (hVal (eC (.int 2))))) (aNil)))))) (sNx)) (sRet (eOp gAdd (hVal (eOp gAdd (hVal (eOp gAdd (hVal (eOp gAdd (hVal (eOp gIxA (hVal (eVar 0)) (hVal (eC (.int 0))))) (hVal (eC (.str " "))))) (hVal (eFn gStrI (aCons (hVal (eOp gIxA (hVal (eVar 0)) (hVal (eC (.int 1))))) (aNil)))))) (hVal (eC (.str "."))))) (hVal (eFn gStrI (aCons (hVal (eOp gIxA (hVal (eVar 0)) (hVal (eC (.int 2))))) (aNil))))))
def fn__law_row : Fn := runFn 1 d__law_row
set_option maxRecDepth 100000 in
theorem ok__law_row {f : Addr} {fd : FuncData}   (C : Mod ⟨K, P, w⟩ mg cls) (F : FunD K "_law_row" "_law_row" (defArgs st__law_row) (defBody st__law_row) (defScope st__law_row) [] [] f fd) :
    FnG P w K mg base 1 f fd ["_law_letter_here"] (SpD ⟨K, P, w⟩ cls 1 fn__law_row) := by
  refine fn_okG (N := n__law_row) (den := d__law_row) (own := ownL []) F sc__law_row (by decide) fun cdv A outer s H E hr gd => ?_
  have hu := huO hr
  have h4 := Nat.lt_of_succ_lt hu
  exact ss_cons (ss_if (sb_cmp (op_eqD h4) ok_eqD (sh_val (se_ixA hu (sh_val (xv)) (sh_val (se_int)) (by intro _ _; rfl))) (sh_val (se_str))) (ss_one (ss_ret (se_op2 op_addU ok_add (sh_val (se_op2 op_addU ok_add (sh_val (se_op2 op_addU ok_add (sh_val (se_str)) (sh_val (se_callTy call_str_int ok_strI rfl C.m_str bt_str (sa_cons (sh_val (se_ixA hu (sh_val (xv)) (sh_val (se_int)) (by intro _ _; rfl))) (sa_nil)))))) (sh_val (se_str)))) (sh_val (se_callTy call_str_int ok_strI rfl C.m_str bt_str (sa_cons (sh_val (se_ixA hu (sh_val (xv)) (sh_val (se_int)) (by intro _ _; rfl))) (sa_nil))))))) (ss_nil)) (ss_one (ss_ret (se_op2 op_addU ok_add (sh_val (se_op2 op_addU ok_add (sh_val (se_op2 op_addU ok_add (sh_val (se_op2 op_addU ok_add (sh_val (se_ixA hu (sh_val (xv)) (sh_val (se_int)) (by intro _ _; rfl))) (sh_val (se_str)))) (sh_val (se_callTy call_str_int ok_strI rfl C.m_str bt_str (sa_cons (sh_val (se_ixA hu (sh_val (xv)) (sh_val (se_int)) (by intro _ _; rfl))) (sa_nil)))))) (sh_val (se_str)))) (sh_val (se_callTy call_str_int ok_strI rfl C.m_str bt_str (sa_cons (sh_val (se_ixA hu (sh_val (xv)) (sh_val (se_int)) (by intro _ _; rfl))) (sa_nil)))))))
abbrev n_World__join : List Str := ["self", "house", "other", "least", "most"]
theorem sc_World__join : FnScope n_World__join ["self", "house", "other"] (defScope st_World__join) := ⟨rfl, rfl, rfl, by decide +kernel, rfl, by decide +kernel, by decide +kernel⟩
def d_World__join : Den Fl := sSeq (sAsgL [.nm 3, .nm 4] (eFn gSorted (aCons (hVal (eLst (aCons (hVal (eMeth 0 "called" fn_World__called [.p 0, .p 1] [] (eVar 0) (aVals (aCons (hVal (eVar 1)) (aNil))) (aVals (aNil)))) (aCons (hVal (eMeth 0 "called" fn_World__called [.p 0, .p 1] [] (eVar 0) (aVals (aCons (hVal (eVar 2)) (aNil))) (aVals (aNil)))) (aNil))))) (aNil)))) (sSeq (sIf (bOf (eOp gEq (hVal (eVar 3)) (hVal (eVar 4)))) ((fun _ => .bad)) (sNx)) (sSeq (sPutD (eFld 0 (eVar 0) "leads") (hVal (eVar 4)) (eVar 3)) (sDrop (eMutO gAppend (eFld 0 (eVar 0) "done") (aVals (aCons (hVal (eTup (aCons (hVal (eTup (aCons (hVal (eVar 1)) (aCons (hVal (eVar 2)) (aNil))))) (aCons (hVal (eVar 4)) (aNil))))) (aNil)))))))
def fn_World__join : Fn := runFn 5 d_World__join
set_option maxRecDepth 100000 in
theorem ok_World__join {f : Addr} {fd : FuncData}   (C : Mod ⟨K, P, w⟩ mg cls) (F : FunD K "join" "World.join" (defArgs st_World__join) (defBody st_World__join) (defScope st_World__join) [] [] f fd)
    {f_World__called : Addr} {fd_World__called : FuncData} (D_World__called : MetG P w K mg base cls 1 0 "called" f_World__called fd_World__called ["self", "house"] fn_World__called)
    {mv20 : List Value} (b20 : KBn K fd_World__called ["self", "house"] 2 [] (fun us ws => arr [.p 0, .p 1] us mv20 ws) (fun vs zs => arr [.p 0, .p 1] vs [] zs)) :
    FnG P w K mg base 2 f fd ["self", "house", "other"] (SpD ⟨K, P, w⟩ cls 3 fn_World__join) := by
  refine fn_okG (N := n_World__join) (den := d_World__join) (own := ownL []) F sc_World__join (by decide) fun cdv A outer s H E hr gd => ?_
  have hu := huO hr
  have h4 := Nat.lt_of_succ_lt hu
  have g0 := gdO hr gd
  exact ss_cons (ss_asgL (se_of (sf_callB (cr_sortD rfl hu) ok_sorted rfl C.m_sorted bt_sorted (sa_cons (sh_val (se_of (sf_lst (sa_cons (sh_val (ym D_World__called hr g0 b20 .nil (xv) (sa_cons (sh_val (xv)) (sa_nil)) (sk_nil) (arrL rfl rfl) (aS (aL aL0)) aL0)) (sa_cons (sh_val (ym D_World__called hr g0 b20 .nil (xv) (sa_cons (sh_val (xv)) (sa_nil)) (sk_nil) (arrL rfl rfl) (aS (aL aL0)) aL0)) (sa_nil)))))) (sa_nil)))) rfl (sgs_cons (sg_name (i := 3) rfl sc_World__join.nd rfl (by ac_nf)) (sgs_cons (sg_name (i := 4) rfl sc_World__join.nd rfl (by ac_nf)) (sgs_nil))) rfl) (ss_cons (ss_if (sb_cmp (op_eqD h4) ok_eqD (sh_val (xv)) (sh_val (xv))) (ss_one (ss_never)) (ss_nil)) (ss_cons (ss_putD hu (se_fld C.cl_World C.na_World_leads (xv)) (sh_val (xv)) (xv)) (ss_one (ss_expr (se_appendO (se_fld C.cl_World C.na_World_done (xv)) (sa_cons (sh_val (se_tup (sa_cons (sh_val (se_tup (sa_cons (sh_val (xv)) (sa_cons (sh_val (xv)) (sa_nil))))) (sa_cons (sh_val (xv)) (sa_nil))))) (sa_nil)))))))
abbrev n_is_letter_in : List Str := ["words", "thing", "world", "word", "house", "other"]
theorem sc_is_letter_in : FnScope n_is_letter_in ["words", "thing", "world"] (defScope st_is_letter_in) := ⟨rfl, rfl, rfl, by decide +kernel, rfl, by decide +kernel, by decide +kernel⟩
def d_is_letter_in : Den Fl := sSeq (sIf (bOr (bNot (bTru (hVal (eUn (gIsi .tup) (hVal (eVar 1)))))) (bOr (bOf (eOp gNe (hVal (eFn gLen (aCons (hVal (eVar 1)) (aNil)))) (hVal (eC (.int 3))))) (bNot (bTru (hVal (eUn (gIsi .str) (hVal (eOp gIxA (hVal (eVar 1)) (hVal (eC (.int 0))))))))))) (sRet (eC (.bl false))) (sNx)) (sSeq (sAsg (.tp [.nm 3, .nm 4, .nm 5]) (eVar 1)) (sSeq (sIf (bOr (bNot (bTru (hVal (eCallK fn_is_number [.p 0, .d 0] [(.int 0)] (aVals (aCons (hVal (eVar 4)) (aNil))) (aVals (aNil)))))) (bNot (bTru (hVal (eCallK fn_is_number [.p 0, .d 0] [(.int 0)] (aVals (aCons (hVal (eVar 5)) (aNil))) (aVals (aNil))))))) (sRet (eC (.bl false))) (sNx)) (sSeq (sIf (bOf (eOp gEq (hVal (eVar 3)) (hVal (eC (.str "join"))))) (sRet (eAnd (eOp gLt (hVal (eVar 4)) (hVal (eVar 5))) (eAnd (eOp gEq (hVal (eMeth 0 "called" fn_World__called [.p 0, .p 1] [] (eVar 2) (aVals (aCons (hVal (eVar 4)) (aNil))) (aVals (aNil)))) (hVal (eVar 4))) (eOp gEq (hVal (eMeth 0 "called" fn_World__called [.p 0, .p 1] [] (eVar 2) (aVals (aCons (hVal (eVar 5)) (aNil))) (aVals (aNil)))) (hVal (eVar 5)))))) (sNx)) (sRet (eOp gInA (hVal (eVar 3)) (hVal (eVar 0)))))))
def fn_is_letter_in : Fn := runFn 6 d_is_letter_in
set_option maxRecDepth 100000 in
theorem ok_is_letter_in {f : Addr} {fd : FuncData}   (C : Mod ⟨K, P, w⟩ mg cls) (F : FunD K "is_letter_in" "is_letter_in" (defArgs st_is_letter_in) (defBody st_is_letter_in) (defScope st_is_letter_in) [] [] f fd)
    {f_is_number : Addr} {fd_is_number : FuncData} (D_is_number : DefG P w K mg base cls 1 "is_number" f_is_number fd_is_number ["thing", "least"] fn_is_number)
    {f_World__called : Addr} {fd_World__called : FuncData} (D_World__called : MetG P w K mg base cls 1 0 "called" f_World__called fd_World__called ["self", "house"] fn_World__called)
    {mv20 : List Value} (b20 : KBn K fd_World__called ["self", "house"] 2 [] (fun us ws => arr [.p 0, .p 1] us mv20 ws) (fun vs zs => arr [.p 0, .p 1] vs [] zs))
    {mv21 : List Value} (b21 : KBn K fd_is_number ["thing", "least"] 1 [] (fun us ws => arr [.p 0, .d 0] us mv21 ws) (fun vs zs => arr [.p 0, .d 0] vs [.int 0] zs)) :
    FnG P w K mg base 2 f fd ["words", "thing", "world"] (SpD ⟨K, P, w⟩ cls 3 fn_is_letter_in) := by
  refine fn_okG (N := n_is_letter_in) (den := d_is_letter_in) (own := ownL []) F sc_is_letter_in (by decide) fun cdv A outer s H E hr gd => ?_
  have hu := huO hr
  have h4 := Nat.lt_of_succ_lt hu
  have g0 := gdO hr gd
  exact ss_cons (ss_if (sb_w (sw_or (sb_not (sb_tru (sh_val (se_isi (T := .tup) (by decide) rfl C.m_isinstance rfl C.m_tuple bt_tuple (sh_val (xv)))))) (sw_or (sb_cmp (op_neD h4) ok_neD (sh_val (se_callB cr_lenU ok_len rfl C.m_len bt_len (sa_cons (sh_val (xv)) (sa_nil)))) (sh_val (se_int))) (sw_or1 (sb_not (sb_tru (sh_val (se_isi (T := .str) (by decide) rfl C.m_isinstance rfl C.m_str bt_str (sh_val (se_ixA hu (sh_val (xv)) (sh_val (se_int)) (by intro _ _; rfl))))))))))) (ss_one (ss_ret (se_bl))) (ss_nil)) (ss_cons (ss_asg (xv) (sg_tup rfl (sgs_cons (sg_name (i := 3) rfl sc_is_letter_in.nd rfl (by ac_nf)) (sgs_cons (sg_name (i := 4) rfl sc_is_letter_in.nd rfl (by ac_nf)) (sgs_cons (sg_name (i := 5) rfl sc_is_letter_in.nd rfl (by ac_nf)) (sgs_nil)))) rfl)) (ss_cons (ss_if (sb_w (sw_or (sb_not (sb_tru (sh_val (yc D_is_number hr g0 b21 (.cons (.int _) .nil) (sa_cons (sh_val (xv)) (sa_nil)) (sk_nil) (arrL rfl rfl) (aL aL0) aL0)))) (sw_or1 (sb_not (sb_tru (sh_val (yc D_is_number hr g0 b21 (.cons (.int _) .nil) (sa_cons (sh_val (xv)) (sa_nil)) (sk_nil) (arrL rfl rfl) (aL aL0) aL0))))))) (ss_one (ss_ret (se_bl))) (ss_nil)) (ss_cons (ss_if (sb_cmp (op_eqD h4) ok_eqD (sh_val (xv)) (sh_val (xg C.g_JOIN))) (ss_one (ss_ret (se_and (se_cmp op_ltU ok_lt (sh_val (xv)) (sh_val (xv))) (se_and (se_cmp (op_eqD h4) ok_eqD (sh_val (ym D_World__called hr g0 b20 .nil (xv) (sa_cons (sh_val (xv)) (sa_nil)) (sk_nil) (arrL rfl rfl) (aS (aL aL0)) aL0)) (sh_val (xv))) (se_one (se_cmp (op_eqD h4) ok_eqD (sh_val (ym D_World__called hr g0 b20 .nil (xv) (sa_cons (sh_val (xv)) (sa_nil)) (sk_nil) (arrL rfl rfl) (aS (aL aL0)) aL0)) (sh_val (xv)))))))) (ss_nil)) (ss_one (ss_ret (se_cmp (op_inA hu) ok_inA (sh_val (xv)) (sh_val (xv))))))))
abbrev n_show_history : List Str := ["history", "letter"]
theorem sc_show_history : FnScope n_show_history ["history"] (defScope st_show_history) := ⟨rfl, rfl, rfl, by decide +kernel, rfl, by decide +kernel, by decide +kernel⟩
def d_show_history : Den Fl := sRet (eJoin (eC (.str "\n")) (eLc (iSeq (eVar 0)) [1] (.nm 1) (.ret true) (eCallK fn_show_letter [.p 0] [] (aVals (aCons (hVal (eVar 1)) (aNil))) (aVals (aNil)))))
def fn_show_history : Fn := runFn 2 d_show_history
set_option maxRecDepth 100000 in
theorem ok_show_history {f : Addr} {fd : FuncData}   (C : Mod ⟨K, P, w⟩ mg cls) (F : FunD K "show_history" "show_history" (defArgs st_show_history) (defBody st_show_history) (defScope st_show_history) [] [] f fd)
    {f_show_letter : Addr} {fd_show_letter : FuncData} (D_show_letter : DefG P w K mg base cls 1 "show_letter" f_show_letter fd_show_letter ["letter"] fn_show_letter)
    {mv25 : List Value} (b25 : KBn K fd_show_letter ["letter"] 1 [] (fun us ws => arr [.p 0] us mv25 ws) (fun vs zs => arr [.p 0] vs [] zs)) :
    FnG P w K mg base 2 f fd ["history"] (SpD ⟨K, P, w⟩ cls 1 fn_show_history) := by
  refine fn_okG (N := n_show_history) (den := d_show_history) (own := ownL []) F sc_show_history (by decide) fun cdv A outer s H E hr gd => ?_
  have g0 := gdO hr gd
  exact ss_one (ss_ret (se_join (se_str) (se_of (sf_lc (ow := [("letter", 1)]) rfl sc_show_history.nd (si_seq (xv)) (blkOk_by (by kernel_rfl)) (fun _ _ _ _ _ => sg_name (i := 1) rfl sc_show_history.nd rfl (by ac_nf)) (fun _ _ _ _ _ => sbs_nil) (fun _ _ _ _ _ => yc D_show_letter hr g0 b25 .nil (sa_cons (sh_val (xv)) (sa_nil)) (sk_nil) (arrL rfl rfl) (aL aL0) aL0) (by decide) (by decide)))))
abbrev n_read_numbers : List Str := ["texts", "found", "text"]
theorem sc_read_numbers : FnScope n_read_numbers ["texts"] (defScope st_read_numbers) := ⟨rfl, rfl, rfl, by decide +kernel, rfl, by decide +kernel, by decide +kernel⟩
def d_read_numbers : Den Fl := sSeq (sSet 1 (eLc (iSeq (eVar 0)) [2] (.nm 2) (.ret true) (eCallK fn_read_number [.p 0] [] (aVals (aCons (hVal (eVar 2)) (aNil))) (aVals (aNil))))) (sRet (eIf (bOf (eOp gInA (hVal (eC .non)) (hVal (eVar 1)))) (eC .non) (eFn gTupleA (aCons (hVal (eVar 1)) (aNil)))))
def fn_read_numbers : Fn := runFn 3 d_read_numbers
set_option maxRecDepth 100000 in
theorem ok_read_numbers {f : Addr} {fd : FuncData}   (C : Mod ⟨K, P, w⟩ mg cls) (F : FunD K "read_numbers" "read_numbers" (defArgs st_read_numbers) (defBody st_read_numbers) (defScope st_read_numbers) [] [] f fd)
    {f_read_number : Addr} {fd_read_number : FuncData} (D_read_number : DefG P w K mg base cls 1 "read_number" f_read_number fd_read_number ["text"] fn_read_number)
    {mv24 : List Value} (b24 : KBn K fd_read_number ["text"] 1 [] (fun us ws => arr [.p 0] us mv24 ws) (fun vs zs => arr [.p 0] vs [] zs)) :
    FnG P w K mg base 2 f fd ["texts"] (SpD ⟨K, P, w⟩ cls 1 fn_read_numbers) := by
  refine fn_okG (N := n_read_numbers) (den := d_read_numbers) (own := ownL []) F sc_read_numbers (by decide) fun cdv A outer s H E hr gd => ?_
  have hu := huO hr
  have g0 := gdO hr gd
  exact ss_cons (ss_setLc (i := 1) (ow := [("text", 2)]) rfl rfl sc_read_numbers.nd rfl rfl rfl (si_seq (xv)) (blkOk_by (by kernel_rfl)) (fun _ _ _ _ _ => sg_name (i := 2) rfl sc_read_numbers.nd rfl (by ac_nf)) (fun _ _ _ _ _ => sbs_nil) (fun _ _ _ _ _ => yc D_read_number hr g0 b24 .nil (sa_cons (sh_val (xv)) (sa_nil)) (sk_nil) (arrL rfl rfl) (aL aL0) aL0) (by decide) (by decide)) (ss_one (ss_ret (se_if (sb_cmp (op_inA hu) ok_inA (sh_val (se_non)) (sh_val (xv))) (se_non) (se_callTy (cr_tupleA rfl) ok_tupleA rfl C.m_tuple bt_tuple (sa_cons (sh_val (xv)) (sa_nil))))))
abbrev n__law_pick : List Str := ["_law_hand_here", "_law_some"]
theorem sc__law_pick : FnScope n__law_pick ["_law_hand_here", "_law_some"] (defScope st__law_pick) := ⟨rfl, rfl, rfl, by decide +kernel, rfl, by decide +kernel, by decide +kernel⟩
def d__law_pick : Den Fl := sRet (eOp gIxA (hVal (eVar 1)) (hVal (eCallK fn__law_take [.p 0, .p 1] [] (aVals (aCons (hVal (eVar 0)) (aCons (hVal (eFn gLen (aCons (hVal (eVar 1)) (aNil)))) (aNil)))) (aVals (aNil)))))
def fn__law_pick : Fn := runFn 2 d__law_pick
set_option maxRecDepth 100000 in
theorem ok__law_pick {f : Addr} {fd : FuncData}   (C : Mod ⟨K, P, w⟩ mg cls) (F : FunD K "_law_pick" "_law_pick" (defArgs st__law_pick) (defBody st__law_pick) (defScope st__law_pick) [] [] f fd)
    {f__law_take : Addr} {fd__law_take : FuncData} (D__law_take : DefG P w K mg base cls 1 "_law_take" f__law_take fd__law_take ["_law_hand_here", "_law_many"] fn__law_take)
    {mv3 : List Value} (b3 : KBn K fd__law_take ["_law_hand_here", "_law_many"] 2 [] (fun us ws => arr [.p 0, .p 1] us mv3 ws) (fun vs zs => arr [.p 0, .p 1] vs [] zs)) :
    FnG P w K mg base 2 f fd ["_law_hand_here", "_law_some"] (SpD ⟨K, P, w⟩ cls 2 fn__law_pick) := by
  refine fn_okG (N := n__law_pick) (den := d__law_pick) (own := ownL []) F sc__law_pick (by decide) fun cdv A outer s H E hr gd => ?_
  have hu := huO hr
  have g0 := gdO hr gd
  exact ss_one (ss_ret (se_ixA hu (sh_val (xv)) (sh_val (yc D__law_take hr g0 b3 .nil (sa_cons (sh_val (xv)) (sa_cons (sh_val (se_callB cr_lenU ok_len rfl C.m_len bt_len (sa_cons (sh_val (xv)) (sa_nil)))) (sa_nil))) (sk_nil) (arrL rfl rfl) (aL (aL aL0)) aL0)) (by intro _ _; rfl)))
abbrev n__law_read : List Str := ["_law_terms", "_law_whole_text", "_law_found", "_law_leads", "_law_at", "_law_row_here", "_law_parts", "_law_figures", "_law_numbers", "_law_part", "_law_house"]
theorem sc__law_read : FnScope n__law_read ["_law_terms", "_law_whole_text"] (defScope st__law_read) := ⟨rfl, rfl, rfl, by decide +kernel, rfl, by decide +kernel, by decide +kernel⟩
def d__law_read : Den Fl := sSeq (sMulti [2, 3] (mCons (eLst (aNil)) (mCons (eC (.dic [])) (mNil)))) (sSeq (sFor (iEnum (aCons (hVal (eSplit (eVar 1) (eC (.str "\n")))) (aNil))) (.tp [.nm 4, .nm 5]) (sSeq (sSet 6 (eSplit (eVar 5) (eC (.str " ")))) (sSeq (sSet 7 (eIf (bOf (eOp gEq (hVal (eOp gIxA (hVal (eVar 6)) (hVal (eC (.int 0))))) (hVal (eC (.str "join"))))) (eCut (hVal (eVar 6)) (pInt (eC (.int 1))) (pNo)) (eSplit (eCut (hVal (eVar 5)) (pInt (eOp gAdd (hVal (eFn gLen (aCons (hVal (eOp gIxA (hVal (eVar 6)) (hVal (eC (.int 0))))) (aNil)))) (hVal (eC (.int 1))))) (pNo)) (eC (.str "."))))) (sSeq (sSet 8 (eLc (iSeq (eVar 7)) [9] (.nm 9) (.ret true) (eCallK fn__law_number [.p 0] [] (aVals (aCons (hVal (eVar 9)) (aNil))) (aVals (aNil))))) (sSeq (sIf (bOr (bOf (eOp gLt (hVal (eFn gLen (aCons (hVal (eVar 6)) (aNil)))) (hVal (eC (.int 2))))) (bOr (bOf (eOp gNe (hVal (eFn gLen (aCons (hVal (eVar 8)) (aNil)))) (hVal (eC (.int 2))))) (bOf (eOp gInA (hVal (eC .non)) (hVal (eVar 8)))))) (sRet (eTup (aCons (hVal (eC .non)) (aCons (hVal (eVar 4)) (aNil))))) (sNx)) (sSeq (sIf (bOf (eOp gEq (hVal (eOp gIxA (hVal (eVar 6)) (hVal (eC (.int 0))))) (hVal (eC (.str "join"))))) (sSeq (sIf (bOr (bOf (eOp gNe (hVal (eLc (iSeq (eVar 8)) [10] (.nm 10) (.ret true) (eCallL [3] fn__law_called [.p 0, .p 1] [] (aCons (hSlot 3) (aCons (hVal (eVar 10)) (aNil))) (aNil)))) (hVal (eVar 8)))) (bOf (eOp gGe (hVal (eOp gIxA (hVal (eVar 8)) (hVal (eC (.int 0))))) (hVal (eOp gIxA (hVal (eVar 8)) (hVal (eC (.int 1)))))))) (sRet (eTup (aCons (hVal (eC .non)) (aCons (hVal (eVar 4)) (aNil))))) (sNx)) (sPut 3 (hVal (eOp gIxA (hVal (eVar 8)) (hVal (eC (.int 1))))) (eOp gIxA (hVal (eVar 8)) (hVal (eC (.int 0)))))) (sIf (bOf (eOp gNotInA (hVal (eOp gIxA (hVal (eVar 6)) (hVal (eC (.int 0))))) (hVal (eVar 0)))) (sRet (eTup (aCons (hVal (eC .non)) (aCons (hVal (eVar 4)) (aNil))))) (sNx))) (sDrop (eMut 2 gAppend (aVals (aCons (hVal (eOp gAdd (hVal (eTup (aCons (hVal (eOp gIxA (hVal (eVar 6)) (hVal (eC (.int 0))))) (aNil)))) (hVal (eFn gTupleA (aCons (hVal (eVar 8)) (aNil)))))) (aNil))))))))))) (sFrz 2 (sRet (eTup (aCons (hVal (eFn gTupleA (aCons (hVal (eVar 2)) (aNil)))) (aCons (hVal (eC .non)) (aNil)))))))
def fn__law_read : Fn := runFn 11 d__law_read
set_option maxRecDepth 100000 in
theorem ok__law_read {f : Addr} {fd : FuncData}   (C : Mod ⟨K, P, w⟩ mg cls) (F : FunD K "_law_read" "_law_read" (defArgs st__law_read) (defBody st__law_read) (defScope st__law_read) [] [] f fd)
    {f__law_number : Addr} {fd__law_number : FuncData} (D__law_number : DefG P w K mg base cls 1 "_law_number" f__law_number fd__law_number ["_law_word"] fn__law_number)
    {f__law_called : Addr} {fd__law_called : FuncData} (D__law_called : DefG P w K mg base cls 1 "_law_called" f__law_called fd__law_called ["_law_leads", "_law_house"] fn__law_called)
    {mv14 : List Value} (b14 : KBn K fd__law_number ["_law_word"] 1 [] (fun us ws => arr [.p 0] us mv14 ws) (fun vs zs => arr [.p 0] vs [] zs))
    {mv15 : List Value} (b15 : KBn K fd__law_called ["_law_leads", "_law_house"] 2 [] (fun us ws => arr [.p 0, .p 1] us mv15 ws) (fun vs zs => arr [.p 0, .p 1] vs [] zs)) :
    FnG P w K mg base 2 f fd ["_law_terms", "_law_whole_text"] (SpD ⟨K, P, w⟩ cls 2 fn__law_read) := by
  refine fn_okG (N := n__law_read) (den := d__law_read) (own := ownL [2, 3]) F sc__law_read (by decide) fun cdv A outer s H E hr gd => ?_
  have hu := huO hr
  have h4 := Nat.lt_of_succ_lt hu
  have g0 := gdO hr gd
  exact ss_cons (ss_asgM (is := [2, 3]) rfl rfl (pgs_cons (pg_name (i := 2) sc__law_read.nd rfl (by ac_nf)) (pgs_cons (pg_name (i := 3) sc__law_read.nd rfl (by ac_nf)) (pgs_nil))) (sm_new (sf_lst (sa_nil)) (sm_new (sf_dic) (sm_nil))) rfl (by decide)) (ss_cons (ss_for PassesOwn.never rfl (si_enum rfl C.m_enumerate (sa_cons (sh_val (se_of (sf_split (xv) (se_str)))) (sa_nil))) (sg_tup rfl (sgs_cons (sg_name (i := 4) rfl sc__law_read.nd rfl (by ac_nf)) (sgs_cons (sg_name (i := 5) rfl sc__law_read.nd rfl (by ac_nf)) (sgs_nil))) rfl) (ss_cons (ss_set (i := 6) rfl sc__law_read.nd rfl (by ac_nf) (se_of (sf_split (xv) (se_str)))) (ss_cons (ss_set (i := 7) rfl sc__law_read.nd rfl (by ac_nf) (se_if (sb_cmp (op_eqD h4) ok_eqD (sh_val (se_ixA hu (sh_val (xv)) (sh_val (se_int)) (by intro _ _; rfl))) (sh_val (se_str))) (se_cut (sh_val (xv)) (sp_int (se_int)) (sp_no)) (se_of (sf_split (se_cut (sh_val (xv)) (sp_int (se_op2 op_addU ok_add (sh_val (se_callB cr_lenU ok_len rfl C.m_len bt_len (sa_cons (sh_val (se_ixA hu (sh_val (xv)) (sh_val (se_int)) (by intro _ _; rfl))) (sa_nil)))) (sh_val (se_int)))) (sp_no)) (se_str))))) (ss_cons (ss_setLc (i := 8) (ow := [("_law_part", 9)]) rfl rfl sc__law_read.nd rfl rfl rfl (si_seq (xv)) (blkOk_by (by kernel_rfl)) (fun _ _ _ _ _ => sg_name (i := 9) rfl sc__law_read.nd rfl (by ac_nf)) (fun _ _ _ _ _ => sbs_nil) (fun _ _ _ _ _ => yc D__law_number hr g0 b14 .nil (sa_cons (sh_val (xv)) (sa_nil)) (sk_nil) (arrL rfl rfl) (aL aL0) aL0) (by decide) (by decide)) (ss_cons (ss_if (sb_w (sw_or (sb_cmp op_ltU ok_lt (sh_val (se_callB cr_lenU ok_len rfl C.m_len bt_len (sa_cons (sh_val (xv)) (sa_nil)))) (sh_val (se_int))) (sw_or (sb_cmp (op_neD h4) ok_neD (sh_val (se_callB cr_lenU ok_len rfl C.m_len bt_len (sa_cons (sh_val (xv)) (sa_nil)))) (sh_val (se_int))) (sw_or1 (sb_cmp (op_inA hu) ok_inA (sh_val (se_non)) (sh_val (xv))))))) (ss_one (ss_ret (se_tup (sa_cons (sh_val (se_non)) (sa_cons (sh_val (xv)) (sa_nil)))))) (ss_nil)) (ss_cons (ss_if (sb_cmp (op_eqD h4) ok_eqD (sh_val (se_ixA hu (sh_val (xv)) (sh_val (se_int)) (by intro _ _; rfl))) (sh_val (se_str))) (ss_cons (ss_if (sb_w (sw_or (sb_cmp (op_neD h4) ok_neD (sh_val (se_of (sf_lc (ow := [("_law_house", 10)]) rfl sc__law_read.nd (si_seq (xv)) (blkOk_by (by kernel_rfl)) (fun _ _ _ _ _ => sg_name (i := 10) rfl sc__law_read.nd rfl (by ac_nf)) (fun _ _ _ _ _ => sbs_nil) (fun _ _ _ _ _ => ycL [3] D__law_called hr g0 b15 .nil (sa_cons (xs) (sa_cons (sh_val (xv)) (sa_nil))) (sk_nil) (arrL rfl rfl) (aL (aL aL0)) aL0) (by decide) (by decide)))) (sh_val (xv))) (sw_or1 (sb_cmp op_ge ok_I (sh_val (se_ixA hu (sh_val (xv)) (sh_val (se_int)) (by intro _ _; rfl))) (sh_val (se_ixA hu (sh_val (xv)) (sh_val (se_int)) (by intro _ _; rfl))))))) (ss_one (ss_ret (se_tup (sa_cons (sh_val (se_non)) (sa_cons (sh_val (xv)) (sa_nil)))))) (ss_nil)) (ss_one (ss_put hu (i := 3) rfl (by ac_nf) rfl (sh_val (se_ixA hu (sh_val (xv)) (sh_val (se_int)) (by intro _ _; rfl))) (se_ixA hu (sh_val (xv)) (sh_val (se_int)) (by intro _ _; rfl))))) (ss_one (ss_if (sb_cmp (op_notInA hu) ok_notInA (sh_val (se_ixA hu (sh_val (xv)) (sh_val (se_int)) (by intro _ _; rfl))) (sh_val (xv))) (ss_one (ss_ret (se_tup (sa_cons (sh_val (se_non)) (sa_cons (sh_val (xv)) (sa_nil)))))) (ss_nil)))) (ss_one (ss_expr (se_append (i := 2) rfl (by ac_nf) rfl (sa_cons (sh_val (se_op2 op_addU ok_add (sh_val (se_tup (sa_cons (sh_val (se_ixA hu (sh_val (xv)) (sh_val (se_int)) (by intro _ _; rfl))) (sa_nil)))) (sh_val (se_callTy (cr_tupleA rfl) ok_tupleA rfl C.m_tuple bt_tuple (sa_cons (sh_val (xv)) (sa_nil)))))) (sa_nil))))))))))) (ss_frz 2 rfl (ss_one (ss_ret (se_tup (sa_cons (sh_val (se_callTy (cr_tupleA rfl) ok_tupleA rfl C.m_tuple bt_tuple (sa_cons (sh_val (xv)) (sa_nil)))) (sa_cons (sh_val (se_non)) (sa_nil))))))))
abbrev n_World____init__ : List Str := ["self", "joins", "house", "other"]
theorem sc_World____init__ : FnScope n_World____init__ ["self", "joins"] (defScope st_World____init__) := ⟨rfl, rfl, rfl, by decide +kernel, rfl, by decide +kernel, by decide +kernel⟩
def d_World____init__ : Den Fl := sSeq (sFldS 0 (eVar 0) "done" (eShare (eLst (aNil)))) (sSeq (sFldS 0 (eVar 0) "leads" (eShareD (eC (.dic [])))) (sFor (iSeq (eVar 1)) (.tp [.nm 2, .nm 3]) (sDrop (eMeth 0 "join" fn_World__join [.p 0, .p 1, .p 2] [] (eVar 0) (aVals (aCons (hVal (eVar 2)) (aCons (hVal (eVar 3)) (aNil)))) (aVals (aNil))))))
def fn_World____init__ : Fn := runFn 4 d_World____init__
set_option maxRecDepth 100000 in
theorem ok_World____init__ {f : Addr} {fd : FuncData} {ad_World____init___0 : Addr}  (C : Mod ⟨K, P, w⟩ mg cls) (F : FunD K "__init__" "World.__init__" (defArgs st_World____init__) (defBody st_World____init__) (defScope st_World____init__) [.ref ad_World____init___0] [] f fd)
    {f_World__join : Addr} {fd_World__join : FuncData} (D_World__join : MetG P w K mg base cls 2 0 "join" f_World__join fd_World__join ["self", "house", "other"] fn_World__join)
    {mv19 : List Value} (b19 : KBn K fd_World__join ["self", "house", "other"] 3 [] (fun us ws => arr [.p 0, .p 1, .p 2] us mv19 ws) (fun vs zs => arr [.p 0, .p 1, .p 2] vs [] zs)) :
    FnG P w K mg base 3 f fd ["self", "joins"] (SpD ⟨K, P, w⟩ cls 2 fn_World____init__) := by
  refine fn_okG (N := n_World____init__) (den := d_World____init__) (own := ownL []) F sc_World____init__ (by decide) fun cdv A outer s H E hr gd => ?_
  have g0 := gdO hr gd
  exact ss_cons (ss_fld C.cl_World C.na_World_done (xv) (se_share (sf_lst (sa_nil)))) (ss_cons (ss_fld C.cl_World C.na_World_leads (xv) (se_shareD (sf_dic))) (ss_one (ss_for PassesOwn.never rfl (si_seq (xv)) (sg_tup rfl (sgs_cons (sg_name (i := 2) rfl sc_World____init__.nd rfl (by ac_nf)) (sgs_cons (sg_name (i := 3) rfl sc_World____init__.nd rfl (by ac_nf)) (sgs_nil))) rfl) (ss_one (ss_expr (ym D_World__join hr g0 b19 .nil (xv) (sa_cons (sh_val (xv)) (sa_cons (sh_val (xv)) (sa_nil))) (sk_nil) (arrL rfl rfl) (aS (aL (aL aL0))) aL0))))))
abbrev n_read_letter : List Str := ["text", "word", "blank", "rest", "numbers"]
theorem sc_read_letter : FnScope n_read_letter ["text"] (defScope st_read_letter) := ⟨rfl, rfl, rfl, by decide +kernel, rfl, by decide +kernel, by decide +kernel⟩
def d_read_letter : Den Fl := sSeq (sAsg (.tp [.nm 1, .nm 2, .nm 3]) (eParts (eVar 0) (eC (.str " ")))) (sSeq (sSet 4 (eCallK fn_read_numbers [.p 0] [] (aVals (aCons (hVal (eSplit (eVar 3) (eIf (bOf (eOp gEq (hVal (eVar 1)) (hVal (eC (.str "join"))))) (eC (.str " ")) (eC (.str "."))))) (aNil))) (aVals (aNil)))) (sSeq (sIf (bOr (bOf (eOp gIsU (hVal (eVar 4)) (hVal (eC .non)))) (bOr (bOf (eOp gNe (hVal (eFn gLen (aCons (hVal (eVar 4)) (aNil)))) (hVal (eC (.int 2))))) (bAnd (bOf (eOp gNe (hVal (eVar 1)) (hVal (eC (.str "join"))))) (bNot (bTru (hVal (eCallK fn_is_name [.p 0] [] (aVals (aCons (hVal (eVar 1)) (aNil))) (aVals (aNil))))))))) (sRet (eC .non)) (sNx)) (sRet (eOp gAdd (hVal (eTup (aCons (hVal (eVar 1)) (aNil)))) (hVal (eVar 4))))))
def fn_read_letter : Fn := runFn 5 d_read_letter
set_option maxRecDepth 100000 in
theorem ok_read_letter {f : Addr} {fd : FuncData}   (C : Mod ⟨K, P, w⟩ mg cls) (F : FunD K "read_letter" "read_letter" (defArgs st_read_letter) (defBody st_read_letter) (defScope st_read_letter) [] [] f fd)
    {f_read_numbers : Addr} {fd_read_numbers : FuncData} (D_read_numbers : DefG P w K mg base cls 2 "read_numbers" f_read_numbers fd_read_numbers ["texts"] fn_read_numbers)
    {f_is_name : Addr} {fd_is_name : FuncData} (D_is_name : DefG P w K mg base cls 1 "is_name" f_is_name fd_is_name ["thing"] fn_is_name)
    {mv22 : List Value} (b22 : KBn K fd_read_numbers ["texts"] 1 [] (fun us ws => arr [.p 0] us mv22 ws) (fun vs zs => arr [.p 0] vs [] zs))
    {mv23 : List Value} (b23 : KBn K fd_is_name ["thing"] 1 [] (fun us ws => arr [.p 0] us mv23 ws) (fun vs zs => arr [.p 0] vs [] zs)) :
    FnG P w K mg base 3 f fd ["text"] (SpD ⟨K, P, w⟩ cls 1 fn_read_letter) := by
  refine fn_okG (N := n_read_letter) (den := d_read_letter) (own := ownL []) F sc_read_letter (by decide) fun cdv A outer s H E hr gd => ?_
  have hu := huO hr
  have h4 := Nat.lt_of_succ_lt hu
  have g0 := gdO hr gd
  exact ss_cons (ss_asg (se_parts (xv) (se_str)) (sg_tup rfl (sgs_cons (sg_name (i := 1) rfl sc_read_letter.nd rfl (by ac_nf)) (sgs_cons (sg_name (i := 2) rfl sc_read_letter.nd rfl (by ac_nf)) (sgs_cons (sg_name (i := 3) rfl sc_read_letter.nd rfl (by ac_nf)) (sgs_nil)))) rfl)) (ss_cons (ss_set (i := 4) rfl sc_read_letter.nd rfl (by ac_nf) (yc D_read_numbers hr g0 b22 .nil (sa_cons (sh_val (se_of (sf_split (xv) (se_if (sb_cmp (op_eqD h4) ok_eqD (sh_val (xv)) (sh_val (xg C.g_JOIN))) (se_str) (se_str))))) (sa_nil)) (sk_nil) (arrL rfl rfl) (aL aL0) aL0)) (ss_cons (ss_if (sb_w (sw_or (sb_cmp op_isU ok_isU (sh_val (xv)) (sh_val (se_non))) (sw_or (sb_cmp (op_neD h4) ok_neD (sh_val (se_callB cr_lenU ok_len rfl C.m_len bt_len (sa_cons (sh_val (xv)) (sa_nil)))) (sh_val (se_int))) (sw_or1 (sb_w (sw_and (sb_cmp (op_neD h4) ok_neD (sh_val (xv)) (sh_val (xg C.g_JOIN))) (sw_and1 (sb_not (sb_tru (sh_val (yc D_is_name hr g0 b23 .nil (sa_cons (sh_val (xv)) (sa_nil)) (sk_nil) (arrL rfl rfl) (aL aL0) aL0))))))))))) (ss_one (ss_ret (se_non))) (ss_nil)) (ss_one (ss_ret (se_op2 op_addU ok_add (sh_val (se_tup (sa_cons (sh_val (xv)) (sa_nil)))) (sh_val (xv)))))))
abbrev n__law_words : List Str := ["_law_hand_here", "_law_many", "_law_letters", "_law_stem", "_law_k", "_law_first", "_law_step"]
theorem sc__law_words : FnScope n__law_words ["_law_hand_here", "_law_many"] (defScope st__law_words) := ⟨rfl, rfl, rfl, by decide +kernel, rfl, by decide +kernel, by decide +kernel⟩
def d__law_words : Den Fl := sSeq (sSet 2 (eC (.str "abcdefghijklmnopqrstuvwxyz"))) (sSeq (sSet 3 (eJoin (eC (.str "")) (eLc (iRange1 (aCons (hVal (eCallK fn__law_pick [.p 0, .p 1] [] (aVals (aCons (hVal (eVar 0)) (aCons (hVal (eLst (aCons (hVal (eC (.int 0))) (aCons (hVal (eC (.int 0))) (aCons (hVal (eC (.int 1))) (aCons (hVal (eC (.int 2))) (aCons (hVal (eC (.int 7))) (aNil)))))))) (aNil)))) (aVals (aNil)))) (aNil))) [4] (.nm 4) (.ret true) (eCallK fn__law_pick [.p 0, .p 1] [] (aVals (aCons (hVal (eVar 0)) (aCons (hVal (eVar 2)) (aNil)))) (aVals (aNil)))))) (sSeq (sMulti [5, 6] (mCons (eCallK fn__law_take [.p 0, .p 1] [] (aVals (aCons (hVal (eVar 0)) (aCons (hVal (eC (.int 26))) (aNil)))) (aVals (aNil))) (mCons (eCallK fn__law_pick [.p 0, .p 1] [] (aVals (aCons (hVal (eVar 0)) (aCons (hVal (eLst (aCons (hVal (eC (.int 1))) (aCons (hVal (eC (.int 3))) (aCons (hVal (eC (.int 5))) (aCons (hVal (eC (.int 25))) (aNil))))))) (aNil)))) (aVals (aNil))) (mNil)))) (sRet (eFn gTupleA (aCons (hVal (eFn gSorted (aCons (hVal (eLc (iRange1 (aCons (hVal (eVar 1)) (aNil))) [4] (.nm 4) (.ret true) (eOp gAdd (hVal (eVar 3)) (hVal (eOp gIxA (hVal (eVar 2)) (hVal (eOp gMod (hVal (eOp gAdd (hVal (eVar 5)) (hVal (eOp gMul (hVal (eVar 6)) (hVal (eVar 4)))))) (hVal (eC (.int 26)))))))))) (aNil)))) (aNil))))))
def fn__law_words : Fn := runFn 7 d__law_words
set_option maxRecDepth 100000 in
theorem ok__law_words {f : Addr} {fd : FuncData}   (C : Mod ⟨K, P, w⟩ mg cls) (F : FunD K "_law_words" "_law_words" (defArgs st__law_words) (defBody st__law_words) (defScope st__law_words) [] [] f fd)
    {f__law_pick : Addr} {fd__law_pick : FuncData} (D__law_pick : DefG P w K mg base cls 2 "_law_pick" f__law_pick fd__law_pick ["_law_hand_here", "_law_some"] fn__law_pick)
    {f__law_take : Addr} {fd__law_take : FuncData} (D__law_take : DefG P w K mg base cls 1 "_law_take" f__law_take fd__law_take ["_law_hand_here", "_law_many"] fn__law_take)
    {mv3 : List Value} (b3 : KBn K fd__law_take ["_law_hand_here", "_law_many"] 2 [] (fun us ws => arr [.p 0, .p 1] us mv3 ws) (fun vs zs => arr [.p 0, .p 1] vs [] zs))
    {mv5 : List Value} (b5 : KBn K fd__law_pick ["_law_hand_here", "_law_some"] 2 [] (fun us ws => arr [.p 0, .p 1] us mv5 ws) (fun vs zs => arr [.p 0, .p 1] vs [] zs)) :
    FnG P w K mg base 3 f fd ["_law_hand_here", "_law_many"] (SpD ⟨K, P, w⟩ cls 2 fn__law_words) := by
  refine fn_okG (N := n__law_words) (den := d__law_words) (own := ownL []) F sc__law_words (by decide) fun cdv A outer s H E hr gd => ?_
  have hu := huO hr
  have g0 := gdO hr gd
  exact ss_cons (ss_set (i := 2) rfl sc__law_words.nd rfl (by ac_nf) (se_str)) (ss_cons (ss_set (i := 3) rfl sc__law_words.nd rfl (by ac_nf) (se_join (se_str) (se_of (sf_lc (ow := [("_law_k", 4)]) rfl sc__law_words.nd (si_range1 rfl C.m_range (sa_cons (sh_val (yc D__law_pick hr g0 b5 .nil (sa_cons (sh_val (xv)) (sa_cons (sh_val (se_of (sf_lst (sa_cons (sh_val (se_int)) (sa_cons (sh_val (se_int)) (sa_cons (sh_val (se_int)) (sa_cons (sh_val (se_int)) (sa_cons (sh_val (se_int)) (sa_nil))))))))) (sa_nil))) (sk_nil) (arrL rfl rfl) (aL (aL aL0)) aL0)) (sa_nil))) (blkOk_by (by kernel_rfl)) (fun _ _ _ _ _ => sg_name (i := 4) rfl sc__law_words.nd rfl (by ac_nf)) (fun _ _ _ _ _ => sbs_nil) (fun _ _ _ _ _ => yc D__law_pick hr g0 b5 .nil (sa_cons (sh_val (xv)) (sa_cons (sh_val (xv)) (sa_nil))) (sk_nil) (arrL rfl rfl) (aL (aL aL0)) aL0) (by decide) (by decide))))) (ss_cons (ss_asgM (is := [5, 6]) rfl rfl (pgs_cons (pg_name (i := 5) sc__law_words.nd rfl (by ac_nf)) (pgs_cons (pg_name (i := 6) sc__law_words.nd rfl (by ac_nf)) (pgs_nil))) (sm_val (yc D__law_take hr g0 b3 .nil (sa_cons (sh_val (xv)) (sa_cons (sh_val (se_int)) (sa_nil))) (sk_nil) (arrL rfl rfl) (aL (aL aL0)) aL0) (sm_val (yc D__law_pick hr g0 b5 .nil (sa_cons (sh_val (xv)) (sa_cons (sh_val (se_of (sf_lst (sa_cons (sh_val (se_int)) (sa_cons (sh_val (se_int)) (sa_cons (sh_val (se_int)) (sa_cons (sh_val (se_int)) (sa_nil)))))))) (sa_nil))) (sk_nil) (arrL rfl rfl) (aL (aL aL0)) aL0) (sm_nil))) rfl (by decide)) (ss_one (ss_ret (se_callTy (cr_tupleA rfl) ok_tupleA rfl C.m_tuple bt_tuple (sa_cons (sh_val (se_of (sf_callB (cr_sortD rfl hu) ok_sorted rfl C.m_sorted bt_sorted (sa_cons (sh_val (se_of (sf_lc (ow := [("_law_k", 4)]) rfl sc__law_words.nd (si_range1 rfl C.m_range (sa_cons (sh_val (xv)) (sa_nil))) (blkOk_by (by kernel_rfl)) (fun _ _ _ _ _ => sg_name (i := 4) rfl sc__law_words.nd rfl (by ac_nf)) (fun _ _ _ _ _ => sbs_nil) (fun _ _ _ _ _ => se_op2 op_addU ok_add (sh_val (xv)) (sh_val (se_ixA hu (sh_val (xv)) (sh_val (se_op2 op_modN ok_mod (sh_val (se_op2 op_addU ok_add (sh_val (xv)) (sh_val (se_op2 op_mulU ok_mul (sh_val (xv)) (sh_val (xv)))))) (sh_val (se_int)))) (by intro _ _; rfl)))) (by decide) (by decide)))) (sa_nil))))) (sa_nil)))))))
abbrev n__law_letter : List Str := ["_law_hand_here", "_law_parts_of", "_law_known", "_law_leads", "_law_houses", "_law_name", "_law_way", "_law_fresh", "_law_pair", "_law_house", "_law_word"]
theorem sc__law_letter : FnScope n__law_letter ["_law_hand_here", "_law_parts_of", "_law_known", "_law_leads"] (defScope st__law_letter) := ⟨rfl, rfl, rfl, by decide +kernel, rfl, by decide +kernel, by decide +kernel⟩
def d__law_letter : Den Fl := sSeq (sSet 4 (eSortSetB (hVal (eLc (iSeq (eVar 2)) [5] (.nm 5) (.ret true) (eCallK fn__law_called [.p 0, .p 1] [] (aVals (aCons (hVal (eVar 3)) (aCons (hVal (eOp gIxA (hVal (eVar 5)) (hVal (eC (.int 0))))) (aNil)))) (aVals (aNil))))))) (sSeq (sSet 6 (eCallK fn__law_take [.p 0, .p 1] [] (aVals (aCons (hVal (eVar 0)) (aCons (hVal (eC (.int 8))) (aNil)))) (aVals (aNil)))) (sSeq (sSet 7 (eCallK fn__law_pick [.p 0, .p 1] [] (aVals (aCons (hVal (eVar 0)) (aCons (hVal (eLst (aCons (hVal (eC (.int 0))) (aCons (hVal (eC (.int 1))) (aCons (hVal (eC (.int 2))) (aCons (hVal (eC (.int 3))) (aCons (hVal (eC (.int 7))) (aCons (hVal (eCallK fn__law_take [.p 0, .p 1] [] (aVals (aCons (hVal (eVar 0)) (aCons (hVal (eOp gPow (hVal (eC (.int 10))) (hVal (eC (.int 8))))) (aNil)))) (aVals (aNil)))) (aNil))))))))) (aNil)))) (aVals (aNil)))) (sSeq (sIf (bOf (eOp gEq (hVal (eVar 6)) (hVal (eC (.int 0))))) (sSeq (sSet 8 (eFn gSorted (aCons (hVal (eLst (aCons (hVal (eCallK fn__law_pick [.p 0, .p 1] [] (aVals (aCons (hVal (eVar 0)) (aCons (hVal (eOp gAdd (hVal (eVar 4)) (hVal (eLst (aCons (hVal (eVar 7)) (aNil)))))) (aNil)))) (aVals (aNil)))) (aCons (hVal (eCallK fn__law_pick [.p 0, .p 1] [] (aVals (aCons (hVal (eVar 0)) (aCons (hVal (eOp gAdd (hVal (eVar 4)) (hVal (eLst (aCons (hVal (eOp gAdd (hVal (eVar 7)) (hVal (eC (.int 1))))) (aNil)))))) (aNil)))) (aVals (aNil)))) (aNil))))) (aNil)))) (sSeq (sSet 8 (eLc (iSeq (eVar 8)) [9] (.nm 9) (.ret true) (eCallK fn__law_called [.p 0, .p 1] [] (aVals (aCons (hVal (eVar 3)) (aCons (hVal (eVar 9)) (aNil)))) (aVals (aNil))))) (sIf (bOf (eOp gNe (hVal (eOp gIxA (hVal (eVar 8)) (hVal (eC (.int 0))))) (hVal (eOp gIxA (hVal (eVar 8)) (hVal (eC (.int 1))))))) (sRet (eTup (aCons (hVal (eC (.str "join"))) (aCons (hVal (eFn gMinL (aCons (hVal (eVar 8)) (aNil)))) (aCons (hVal (eFn gMaxL (aCons (hVal (eVar 8)) (aNil)))) (aNil)))))) (sNx)))) (sNx)) (sSeq (sSet 10 (eCallK fn__law_pick [.p 0, .p 1] [] (aVals (aCons (hVal (eVar 0)) (aCons (hVal (eVar 1)) (aNil)))) (aVals (aNil)))) (sSeq (sIf (bAnd (bOf (eOp gNe (hVal (eVar 2)) (hVal (eLst (aNil))))) (bOf (eOp gLt (hVal (eVar 6)) (hVal (eC (.int 5)))))) (sRet (eOp gAdd (hVal (eTup (aCons (hVal (eVar 10)) (aNil)))) (hVal (eCallK fn__law_pick [.p 0, .p 1] [] (aVals (aCons (hVal (eVar 0)) (aCons (hVal (eOp gAdd (hVal (eCut (hVal (eVar 2)) (pInt (eUn gNeg (hVal (eC (.int 3))))) (pNo))) (hVal (eVar 2)))) (aNil)))) (aVals (aNil)))))) (sNx)) (sSeq (sIf (bAnd (bOf (eOp gNe (hVal (eVar 2)) (hVal (eLst (aNil))))) (bOf (eOp gLt (hVal (eVar 6)) (hVal (eC (.int 7)))))) (sRet (eTup (aCons (hVal (eVar 10)) (aCons (hVal (eCallK fn__law_pick [.p 0, .p 1] [] (aVals (aCons (hVal (eVar 0)) (aCons (hVal (eLc (iSeq (eVar 2)) [5] (.nm 5) (.ret true) (eOp gIxA (hVal (eVar 5)) (hVal (eC (.int 0)))))) (aNil)))) (aVals (aNil)))) (aCons (hVal (eVar 7)) (aNil)))))) (sNx)) (sRet (eTup (aCons (hVal (eVar 10)) (aCons (hVal (eVar 7)) (aCons (hVal (eCallK fn__law_pick [.p 0, .p 1] [] (aVals (aCons (hVal (eVar 0)) (aCons (hVal (eLst (aCons (hVal (eC (.int 0))) (aCons (hVal (eC (.int 1))) (aCons (hVal (eC (.int 2))) (aCons (hVal (eCallK fn__law_take [.p 0, .p 1] [] (aVals (aCons (hVal (eVar 0)) (aCons (hVal (eOp gPow (hVal (eC (.int 10))) (hVal (eC (.int 8))))) (aNil)))) (aVals (aNil)))) (aNil))))))) (aNil)))) (aVals (aNil)))) (aNil))))))))))))
def fn__law_letter : Fn := runFn 11 d__law_letter
set_option maxRecDepth 100000 in
theorem ok__law_letter {f : Addr} {fd : FuncData}   (C : Mod ⟨K, P, w⟩ mg cls) (F : FunD K "_law_letter" "_law_letter" (defArgs st__law_letter) (defBody st__law_letter) (defScope st__law_letter) [] [] f fd)
    {f__law_called : Addr} {fd__law_called : FuncData} (D__law_called : DefG P w K mg base cls 1 "_law_called" f__law_called fd__law_called ["_law_leads", "_law_house"] fn__law_called)
    {f__law_take : Addr} {fd__law_take : FuncData} (D__law_take : DefG P w K mg base cls 1 "_law_take" f__law_take fd__law_take ["_law_hand_here", "_law_many"] fn__law_take)
    {f__law_pick : Addr} {fd__law_pick : FuncData} (D__law_pick : DefG P w K mg base cls 2 "_law_pick" f__law_pick fd__law_pick ["_law_hand_here", "_law_some"] fn__law_pick)
    {mv3 : List Value} (b3 : KBn K fd__law_take ["_law_hand_here", "_law_many"] 2 [] (fun us ws => arr [.p 0, .p 1] us mv3 ws) (fun vs zs => arr [.p 0, .p 1] vs [] zs))
    {mv5 : List Value} (b5 : KBn K fd__law_pick ["_law_hand_here", "_law_some"] 2 [] (fun us ws => arr [.p 0, .p 1] us mv5 ws) (fun vs zs => arr [.p 0, .p 1] vs [] zs))
    {mv15 : List Value} (b15 : KBn K fd__law_called ["_law_leads", "_law_house"] 2 [] (fun us ws => arr [.p 0, .p 1] us mv15 ws) (fun vs zs => arr [.p 0, .p 1] vs [] zs)) :
    FnG P w K mg base 3 f fd ["_law_hand_here", "_law_parts_of", "_law_known", "_law_leads"] (SpD ⟨K, P, w⟩ cls 4 fn__law_letter) := by
  refine fn_okG (N := n__law_letter) (den := d__law_letter) (own := ownL []) F sc__law_letter (by decide) fun cdv A outer s H E hr gd => ?_
  have hu := huO hr
  have h4 := Nat.lt_of_succ_lt hu
  have g0 := gdO hr gd
  exact ss_cons (ss_set (i := 4) rfl sc__law_letter.nd rfl (by ac_nf) (se_of (sf_sortSetB hu rfl rfl C.m_sorted rfl C.m_set (sh_val (se_of (sf_lc (ow := [("_law_name", 5)]) rfl sc__law_letter.nd (si_seq (xv)) (blkOk_by (by kernel_rfl)) (fun _ _ _ _ _ => sg_name (i := 5) rfl sc__law_letter.nd rfl (by ac_nf)) (fun _ _ _ _ _ => sbs_nil) (fun _ _ _ _ _ => yc D__law_called hr g0 b15 .nil (sa_cons (sh_val (xv)) (sa_cons (sh_val (se_ixA hu (sh_val (xv)) (sh_val (se_int)) (by intro _ _; rfl))) (sa_nil))) (sk_nil) (arrL rfl rfl) (aL (aL aL0)) aL0) (by decide) (by decide))))))) (ss_cons (ss_set (i := 6) rfl sc__law_letter.nd rfl (by ac_nf) (yc D__law_take hr g0 b3 .nil (sa_cons (sh_val (xv)) (sa_cons (sh_val (se_int)) (sa_nil))) (sk_nil) (arrL rfl rfl) (aL (aL aL0)) aL0)) (ss_cons (ss_set (i := 7) rfl sc__law_letter.nd rfl (by ac_nf) (yc D__law_pick hr g0 b5 .nil (sa_cons (sh_val (xv)) (sa_cons (sh_val (se_of (sf_lst (sa_cons (sh_val (se_int)) (sa_cons (sh_val (se_int)) (sa_cons (sh_val (se_int)) (sa_cons (sh_val (se_int)) (sa_cons (sh_val (se_int)) (sa_cons (sh_val (yc D__law_take hr g0 b3 .nil (sa_cons (sh_val (xv)) (sa_cons (sh_val (se_op2 op_pow ok_pow (sh_val (se_int)) (sh_val (se_int)))) (sa_nil))) (sk_nil) (arrL rfl rfl) (aL (aL aL0)) aL0)) (sa_nil)))))))))) (sa_nil))) (sk_nil) (arrL rfl rfl) (aL (aL aL0)) aL0)) (ss_cons (ss_if (sb_cmp (op_eqD h4) ok_eqD (sh_val (xv)) (sh_val (se_int))) (ss_cons (ss_set (i := 8) rfl sc__law_letter.nd rfl (by ac_nf) (se_of (sf_callB (cr_sortD rfl hu) ok_sorted rfl C.m_sorted bt_sorted (sa_cons (sh_val (se_of (sf_lst (sa_cons (sh_val (yc D__law_pick hr g0 b5 .nil (sa_cons (sh_val (xv)) (sa_cons (sh_val (se_op2 op_addU ok_add (sh_val (xv)) (sh_val (se_of (sf_lst (sa_cons (sh_val (xv)) (sa_nil))))))) (sa_nil))) (sk_nil) (arrL rfl rfl) (aL (aL aL0)) aL0)) (sa_cons (sh_val (yc D__law_pick hr g0 b5 .nil (sa_cons (sh_val (xv)) (sa_cons (sh_val (se_op2 op_addU ok_add (sh_val (xv)) (sh_val (se_of (sf_lst (sa_cons (sh_val (se_op2 op_addU ok_add (sh_val (xv)) (sh_val (se_int)))) (sa_nil))))))) (sa_nil))) (sk_nil) (arrL rfl rfl) (aL (aL aL0)) aL0)) (sa_nil)))))) (sa_nil))))) (ss_cons (ss_setLc (i := 8) (ow := [("_law_house", 9)]) rfl rfl sc__law_letter.nd rfl rfl rfl (si_seq (xv)) (blkOk_by (by kernel_rfl)) (fun _ _ _ _ _ => sg_name (i := 9) rfl sc__law_letter.nd rfl (by ac_nf)) (fun _ _ _ _ _ => sbs_nil) (fun _ _ _ _ _ => yc D__law_called hr g0 b15 .nil (sa_cons (sh_val (xv)) (sa_cons (sh_val (xv)) (sa_nil))) (sk_nil) (arrL rfl rfl) (aL (aL aL0)) aL0) (by decide) (by decide)) (ss_one (ss_if (sb_cmp (op_neD h4) ok_neD (sh_val (se_ixA hu (sh_val (xv)) (sh_val (se_int)) (by intro _ _; rfl))) (sh_val (se_ixA hu (sh_val (xv)) (sh_val (se_int)) (by intro _ _; rfl)))) (ss_one (ss_ret (se_tup (sa_cons (sh_val (se_str)) (sa_cons (sh_val (se_callB (cr_min rfl) ok_minL rfl C.m_min bt_min (sa_cons (sh_val (xv)) (sa_nil)))) (sa_cons (sh_val (se_callB (cr_max rfl) ok_maxL rfl C.m_max bt_max (sa_cons (sh_val (xv)) (sa_nil)))) (sa_nil))))))) (ss_nil))))) (ss_nil)) (ss_cons (ss_set (i := 10) rfl sc__law_letter.nd rfl (by ac_nf) (yc D__law_pick hr g0 b5 .nil (sa_cons (sh_val (xv)) (sa_cons (sh_val (xv)) (sa_nil))) (sk_nil) (arrL rfl rfl) (aL (aL aL0)) aL0)) (ss_cons (ss_if (sb_w (sw_and (sb_cmp (op_neD h4) ok_neD (sh_val (xv)) (sh_val (se_of (sf_lst (sa_nil))))) (sw_and1 (sb_cmp op_ltU ok_lt (sh_val (xv)) (sh_val (se_int)))))) (ss_one (ss_ret (se_op2 op_addU ok_add (sh_val (se_tup (sa_cons (sh_val (xv)) (sa_nil)))) (sh_val (yc D__law_pick hr g0 b5 .nil (sa_cons (sh_val (xv)) (sa_cons (sh_val (se_op2 op_addU ok_add (sh_val (se_cut (sh_val (xv)) (sp_int (se_un un_neg ok_neg (sh_val (se_int)))) (sp_no))) (sh_val (xv)))) (sa_nil))) (sk_nil) (arrL rfl rfl) (aL (aL aL0)) aL0))))) (ss_nil)) (ss_cons (ss_if (sb_w (sw_and (sb_cmp (op_neD h4) ok_neD (sh_val (xv)) (sh_val (se_of (sf_lst (sa_nil))))) (sw_and1 (sb_cmp op_ltU ok_lt (sh_val (xv)) (sh_val (se_int)))))) (ss_one (ss_ret (se_tup (sa_cons (sh_val (xv)) (sa_cons (sh_val (yc D__law_pick hr g0 b5 .nil (sa_cons (sh_val (xv)) (sa_cons (sh_val (se_of (sf_lc (ow := [("_law_name", 5)]) rfl sc__law_letter.nd (si_seq (xv)) (blkOk_by (by kernel_rfl)) (fun _ _ _ _ _ => sg_name (i := 5) rfl sc__law_letter.nd rfl (by ac_nf)) (fun _ _ _ _ _ => sbs_nil) (fun _ _ _ _ _ => se_ixA hu (sh_val (xv)) (sh_val (se_int)) (by intro _ _; rfl)) (by decide) (by decide)))) (sa_nil))) (sk_nil) (arrL rfl rfl) (aL (aL aL0)) aL0)) (sa_cons (sh_val (xv)) (sa_nil))))))) (ss_nil)) (ss_one (ss_ret (se_tup (sa_cons (sh_val (xv)) (sa_cons (sh_val (xv)) (sa_cons (sh_val (yc D__law_pick hr g0 b5 .nil (sa_cons (sh_val (xv)) (sa_cons (sh_val (se_of (sf_lst (sa_cons (sh_val (se_int)) (sa_cons (sh_val (se_int)) (sa_cons (sh_val (se_int)) (sa_cons (sh_val (yc D__law_take hr g0 b3 .nil (sa_cons (sh_val (xv)) (sa_cons (sh_val (se_op2 op_pow ok_pow (sh_val (se_int)) (sh_val (se_int)))) (sa_nil))) (sk_nil) (arrL rfl rfl) (aL (aL aL0)) aL0)) (sa_nil)))))))) (sa_nil))) (sk_nil) (arrL rfl rfl) (aL (aL aL0)) aL0)) (sa_nil)))))))))))))
abbrev n__law_spoilt : List Str := ["_law_hand_here", "_law_whole_text", "_law_terms", "_law_rows", "_law_way", "_law_at", "_law_second", "_law_some", "_law_part", "_law_spot", "_law_signs", "_law_sign"]
theorem sc__law_spoilt : FnScope n__law_spoilt ["_law_hand_here", "_law_whole_text", "_law_terms"] (defScope st__law_spoilt) := ⟨rfl, rfl, rfl, by decide +kernel, rfl, by decide +kernel, by decide +kernel⟩
def d__law_spoilt : Den Fl := sSeq (sMulti [3, 4] (mCons (eSplit (eVar 1) (eC (.str "\n"))) (mCons (eCallK fn__law_take [.p 0, .p 1] [] (aVals (aCons (hVal (eVar 0)) (aCons (hVal (eC (.int 6))) (aNil)))) (aVals (aNil))) (mNil)))) (sSeq (sMulti [5, 6] (mCons (eCallK fn__law_take [.p 0, .p 1] [] (aVals (aCons (hVal (eVar 0)) (aCons (hVal (eFn gLenA (aCons (hSlot 3) (aNil)))) (aNil)))) (aVals (aNil))) (mCons (eCallK fn__law_take [.p 0, .p 1] [] (aVals (aCons (hVal (eVar 0)) (aCons (hVal (eFn gLenA (aCons (hSlot 3) (aNil)))) (aNil)))) (aVals (aNil))) (mNil)))) (sSeq (sIf (bOf (eOp gEq (hVal (eVar 4)) (hVal (eC (.int 0))))) (sRet (eJoin (eC (.str "\n")) (eOp gAdd (hVal (eCut (hSlot 3) (pNo) (pInt (eVar 5)))) (hVal (eCut (hSlot 3) (pInt (eOp gAdd (hVal (eVar 5)) (hVal (eC (.int 1))))) (pNo)))))) (sNx)) (sSeq (sIf (bOf (eOp gEq (hVal (eVar 4)) (hVal (eC (.int 1))))) (sSeq (sAsgs [gdPut 3 (hVal (eVar 5)), gdPut 3 (hVal (eVar 6))] (eTup (aCons (hVal (eOp gIxA (hSlot 3) (hVal (eVar 6)))) (aCons (hVal (eOp gIxA (hSlot 3) (hVal (eVar 5)))) (aNil))))) (sRet (eJoin (eC (.str "\n")) (eLast 3)))) (sNx)) (sFrz 3 (sSeq (sIf (bOf (eOp gEq (hVal (eVar 4)) (hVal (eC (.int 2))))) (sSeq (sSet 7 (eLst (aCons (hVal (eC (.str "join 0 1"))) (aCons (hVal (eC (.str "join 1 0"))) (aCons (hVal (eC (.str "join 2 2"))) (aCons (hVal (eC (.str ""))) (aCons (hVal (eC (.str "join 0"))) (aCons (hVal (eC (.str "join 0.1"))) (aNil))))))))) (sSeq (sDrop (eMut 7 gExtend (aLooks (aCons (hVal (eLc (iSeq (eLst (aCons (hVal (eC (.str " 0.0"))) (aCons (hVal (eC (.str "a 0.0"))) (aCons (hVal (eC (.str " 00.1"))) (aCons (hVal (eC (.str " 0 1"))) (aCons (hVal (eC (.str " 0.0.0"))) (aCons (hVal (eC (.str " 1000000000.0"))) (aNil))))))))) [8] (.nm 8) (.ret true) (eOp gAdd (hVal (eOp gIxA (hVal (eVar 2)) (hVal (eC (.int 0))))) (hVal (eVar 8))))) (aNil))))) (sSeq (sDrop (eMut 7 gAppend (aVals (aCons (hVal (eOp gAdd (hVal (eOp gAdd (hVal (eOp gIxA (hVal (eVar 2)) (hVal (eC (.int 0))))) (hVal (eC (.str " 0."))))) (hVal (eOp gMulZ (hVal (eC (.str "0"))) (hVal (eC (.int 4301))))))) (aNil))))) (sFrz 7 (sRet (eJoin (eC (.str "\n")) (eOp gAdd (hVal (eOp gAdd (hVal (eCut (hVal (eVar 3)) (pNo) (pInt (eVar 5)))) (hVal (eLst (aCons (hVal (eCallK fn__law_pick [.p 0, .p 1] [] (aVals (aCons (hVal (eVar 0)) (aCons (hVal (eVar 7)) (aNil)))) (aVals (aNil)))) (aNil)))))) (hVal (eCut (hVal (eVar 3)) (pInt (eVar 5)) (pNo)))))))))) (sNx)) (sSeq (sMulti [9, 10] (mCons (eCallK fn__law_take [.p 0, .p 1] [] (aVals (aCons (hVal (eVar 0)) (aCons (hVal (eOp gAdd (hVal (eFn gLen (aCons (hVal (eVar 1)) (aNil)))) (hVal (eC (.int 1))))) (aNil)))) (aVals (aNil))) (mCons (eC (.str "\n .01-aj")) (mNil)))) (sSeq (sSet 11 (eCallK fn__law_pick [.p 0, .p 1] [] (aVals (aCons (hVal (eVar 0)) (aCons (hVal (eVar 10)) (aNil)))) (aVals (aNil)))) (sRet (eOp gAdd (hVal (eOp gAdd (hVal (eCut (hVal (eVar 1)) (pNo) (pInt (eVar 9)))) (hVal (eOp gIxA (hVal (eLst (aCons (hVal (eVar 11)) (aCons (hVal (eC (.str ""))) (aNil))))) (hVal (eCallK fn__law_take [.p 0, .p 1] [] (aVals (aCons (hVal (eVar 0)) (aCons (hVal (eC (.int 2))) (aNil)))) (aVals (aNil)))))))) (hVal (eCut (hVal (eVar 1)) (pInt (eOp gAdd (hVal (eVar 9)) (hVal (eCallK fn__law_take [.p 0, .p 1] [] (aVals (aCons (hVal (eVar 0)) (aCons (hVal (eC (.int 2))) (aNil)))) (aVals (aNil)))))) (pNo))))))))))))
def fn__law_spoilt : Fn := runFn 12 d__law_spoilt
set_option maxRecDepth 100000 in
theorem ok__law_spoilt {f : Addr} {fd : FuncData}   (C : Mod ⟨K, P, w⟩ mg cls) (F : FunD K "_law_spoilt" "_law_spoilt" (defArgs st__law_spoilt) (defBody st__law_spoilt) (defScope st__law_spoilt) [] [] f fd)
    {f__law_take : Addr} {fd__law_take : FuncData} (D__law_take : DefG P w K mg base cls 1 "_law_take" f__law_take fd__law_take ["_law_hand_here", "_law_many"] fn__law_take)
    {f__law_pick : Addr} {fd__law_pick : FuncData} (D__law_pick : DefG P w K mg base cls 2 "_law_pick" f__law_pick fd__law_pick ["_law_hand_here", "_law_some"] fn__law_pick)
    {mv3 : List Value} (b3 : KBn K fd__law_take ["_law_hand_here", "_law_many"] 2 [] (fun us ws => arr [.p 0, .p 1] us mv3 ws) (fun vs zs => arr [.p 0, .p 1] vs [] zs))
    {mv5 : List Value} (b5 : KBn K fd__law_pick ["_law_hand_here", "_law_some"] 2 [] (fun us ws => arr [.p 0, .p 1] us mv5 ws) (fun vs zs => arr [.p 0, .p 1] vs [] zs)) :
    FnG P w K mg base 3 f fd ["_law_hand_here", "_law_whole_text", "_law_terms"] (SpD ⟨K, P, w⟩ cls 3 fn__law_spoilt) := by
  refine fn_okG (N := n__law_spoilt) (den := d__law_spoilt) (own := ownL [3, 7]) F sc__law_spoilt (by decide) fun cdv A outer s H E hr gd => ?_
  have hu := huO hr
  have h4 := Nat.lt_of_succ_lt hu
  have g0 := gdO hr gd
  exact ss_cons (ss_parM (i := 3) (j := 4) rfl rfl sc__law_spoilt.nd rfl rfl (by decide) rfl rfl (sm_new (sf_split (xv) (se_str)) (sm_val (yc D__law_take hr g0 b3 .nil (sa_cons (sh_val (xv)) (sa_cons (sh_val (se_int)) (sa_nil))) (sk_nil) (arrL rfl rfl) (aL (aL aL0)) aL0) (sm_nil))) rfl) (ss_cons (ss_parM (i := 5) (j := 6) rfl rfl sc__law_spoilt.nd rfl rfl (by decide) rfl rfl (sm_val (yc D__law_take hr g0 b3 .nil (sa_cons (sh_val (xv)) (sa_cons (sh_val (se_callB cr_lenA ok_lenA rfl C.m_len bt_len (sa_cons (xs) (sa_nil)))) (sa_nil))) (sk_nil) (arrL rfl rfl) (aL (aL aL0)) aL0) (sm_val (yc D__law_take hr g0 b3 .nil (sa_cons (sh_val (xv)) (sa_cons (sh_val (se_callB cr_lenA ok_lenA rfl C.m_len bt_len (sa_cons (xs) (sa_nil)))) (sa_nil))) (sk_nil) (arrL rfl rfl) (aL (aL aL0)) aL0) (sm_nil))) rfl) (ss_cons (ss_if (sb_cmp (op_eqD h4) ok_eqD (sh_val (xv)) (sh_val (se_int))) (ss_one (ss_ret (se_join (se_str) (se_op2 op_addU ok_add (sh_val (se_cut (xs) (sp_no) (sp_int (xv)))) (sh_val (se_cut (xs) (sp_int (se_op2 op_addU ok_add (sh_val (xv)) (sh_val (se_int)))) (sp_no))))))) (ss_nil)) (ss_cons (ss_if (sb_cmp (op_eqD h4) ok_eqD (sh_val (xv)) (sh_val (se_int))) (ss_cons (ss_asgs rfl (se_tup (sa_cons (sh_val (se_ixA hu (xs) (sh_val (xv)) (by intro _ _; rfl))) (sa_cons (sh_val (se_ixA hu (xs) (sh_val (xv)) (by intro _ _; rfl))) (sa_nil)))) (sgds_cons (sgd_put hu (i := 3) rfl (by ac_nf) rfl (sh_val (xv))) (sgds_cons (sgd_put hu (i := 3) rfl (by ac_nf) rfl (sh_val (xv))) (sgds_nil))) rfl) (ss_one (ss_ret (se_join (se_str) (se_last (i := 3) rfl (by ac_nf) rfl))))) (ss_nil)) (ss_frz 3 rfl (ss_cons (ss_if (sb_cmp (op_eqD h4) ok_eqD (sh_val (xv)) (sh_val (se_int))) (ss_cons (ss_own (i := 7) rfl sc__law_spoilt.nd rfl (by ac_nf) (sf_lst (sa_cons (sh_val (se_str)) (sa_cons (sh_val (se_str)) (sa_cons (sh_val (se_str)) (sa_cons (sh_val (se_str)) (sa_cons (sh_val (se_str)) (sa_cons (sh_val (se_str)) (sa_nil))))))))) (ss_cons (ss_expr (se_extend (i := 7) rfl (by ac_nf) rfl (sa_cons (sh_val (se_of (sf_lc (ow := [("_law_part", 8)]) rfl sc__law_spoilt.nd (si_seq (se_of (sf_lst (sa_cons (sh_val (se_str)) (sa_cons (sh_val (se_str)) (sa_cons (sh_val (se_str)) (sa_cons (sh_val (se_str)) (sa_cons (sh_val (se_str)) (sa_cons (sh_val (se_str)) (sa_nil)))))))))) (blkOk_by (by kernel_rfl)) (fun _ _ _ _ _ => sg_name (i := 8) rfl sc__law_spoilt.nd rfl (by ac_nf)) (fun _ _ _ _ _ => sbs_nil) (fun _ _ _ _ _ => se_op2 op_addU ok_add (sh_val (se_ixA hu (sh_val (xv)) (sh_val (se_int)) (by intro _ _; rfl))) (sh_val (xv))) (by decide) (by decide)))) (sa_nil)))) (ss_cons (ss_expr (se_append (i := 7) rfl (by ac_nf) rfl (sa_cons (sh_val (se_op2 op_addU ok_add (sh_val (se_op2 op_addU ok_add (sh_val (se_ixA hu (sh_val (xv)) (sh_val (se_int)) (by intro _ _; rfl))) (sh_val (se_str)))) (sh_val (se_op2 op_mulZ ok_mulZ (sh_val (se_str)) (sh_val (se_int)))))) (sa_nil)))) (ss_frz 7 rfl (ss_one (ss_ret (se_join (se_str) (se_op2 op_addU ok_add (sh_val (se_op2 op_addU ok_add (sh_val (se_cut (sh_val (xv)) (sp_no) (sp_int (xv)))) (sh_val (se_of (sf_lst (sa_cons (sh_val (yc D__law_pick hr g0 b5 .nil (sa_cons (sh_val (xv)) (sa_cons (sh_val (xv)) (sa_nil))) (sk_nil) (arrL rfl rfl) (aL (aL aL0)) aL0)) (sa_nil))))))) (sh_val (se_cut (sh_val (xv)) (sp_int (xv)) (sp_no))))))))))) (ss_nil)) (ss_cons (ss_parM (i := 9) (j := 10) rfl rfl sc__law_spoilt.nd rfl rfl (by decide) rfl rfl (sm_val (yc D__law_take hr g0 b3 .nil (sa_cons (sh_val (xv)) (sa_cons (sh_val (se_op2 op_addU ok_add (sh_val (se_callB cr_lenU ok_len rfl C.m_len bt_len (sa_cons (sh_val (xv)) (sa_nil)))) (sh_val (se_int)))) (sa_nil))) (sk_nil) (arrL rfl rfl) (aL (aL aL0)) aL0) (sm_val (se_str) (sm_nil))) rfl) (ss_cons (ss_set (i := 11) rfl sc__law_spoilt.nd rfl (by ac_nf) (yc D__law_pick hr g0 b5 .nil (sa_cons (sh_val (xv)) (sa_cons (sh_val (xv)) (sa_nil))) (sk_nil) (arrL rfl rfl) (aL (aL aL0)) aL0)) (ss_one (ss_ret (se_op2 op_addU ok_add (sh_val (se_op2 op_addU ok_add (sh_val (se_cut (sh_val (xv)) (sp_no) (sp_int (xv)))) (sh_val (se_ixA hu (sh_val (se_of (sf_lst (sa_cons (sh_val (xv)) (sa_cons (sh_val (se_str)) (sa_nil)))))) (sh_val (yc D__law_take hr g0 b3 .nil (sa_cons (sh_val (xv)) (sa_cons (sh_val (se_int)) (sa_nil))) (sk_nil) (arrL rfl rfl) (aL (aL aL0)) aL0)) (by intro _ _; rfl))))) (sh_val (se_cut (sh_val (xv)) (sp_int (se_op2 op_addU ok_add (sh_val (xv)) (sh_val (yc D__law_take hr g0 b3 .nil (sa_cons (sh_val (xv)) (sa_cons (sh_val (se_int)) (sa_nil))) (sk_nil) (arrL rfl rfl) (aL (aL aL0)) aL0)))) (sp_no)))))))))))))
abbrev n__law_history : List Str := ["_law_hand_here", "_law_parts_of", "_law_many", "_law_found", "_law_known", "_law_leads", "_law_k", "_law_letter_here"]
theorem sc__law_history : FnScope n__law_history ["_law_hand_here", "_law_parts_of", "_law_many"] (defScope st__law_history) := ⟨rfl, rfl, rfl, by decide +kernel, rfl, by decide +kernel, by decide +kernel⟩
def d__law_history : Den Fl := sSeq (sMulti [3, 4, 5] (mCons (eLst (aNil)) (mCons (eLst (aNil)) (mCons (eC (.dic [])) (mNil))))) (sSeq (sFor (iRange1 (aCons (hVal (eVar 2)) (aNil))) (.nm 6) (sSeq (sSet 7 (eCallL [4, 5] fn__law_letter [.p 0, .p 1, .p 2, .p 3] [] (aCons (hVal (eVar 0)) (aCons (hVal (eVar 1)) (aCons (hSlot 4) (aCons (hSlot 5) (aNil))))) (aNil))) (sSeq (sIf (bOf (eOp gEq (hVal (eOp gIxA (hVal (eVar 7)) (hVal (eC (.int 0))))) (hVal (eC (.str "join"))))) (sPut 5 (hVal (eOp gIxA (hVal (eVar 7)) (hVal (eC (.int 2))))) (eOp gIxA (hVal (eVar 7)) (hVal (eC (.int 1))))) (sIf (bOf (eOp gNotInA (hVal (eCut (hVal (eVar 7)) (pInt (eC (.int 1))) (pNo))) (hSlot 4))) (sDrop (eMut 4 gAppend (aVals (aCons (hVal (eCut (hVal (eVar 7)) (pInt (eC (.int 1))) (pNo))) (aNil))))) (sNx))) (sDrop (eMut 3 gAppend (aVals (aCons (hVal (eVar 7)) (aNil)))))))) (sFrz 3 (sRet (eFn gTupleA (aCons (hVal (eVar 3)) (aNil))))))
def fn__law_history : Fn := runFn 8 d__law_history
set_option maxRecDepth 100000 in
theorem ok__law_history {f : Addr} {fd : FuncData}   (C : Mod ⟨K, P, w⟩ mg cls) (F : FunD K "_law_history" "_law_history" (defArgs st__law_history) (defBody st__law_history) (defScope st__law_history) [] [] f fd)
    {f__law_letter : Addr} {fd__law_letter : FuncData} (D__law_letter : DefG P w K mg base cls 3 "_law_letter" f__law_letter fd__law_letter ["_law_hand_here", "_law_parts_of", "_law_known", "_law_leads"] fn__law_letter)
    {mv26 : List Value} (b26 : KBn K fd__law_letter ["_law_hand_here", "_law_parts_of", "_law_known", "_law_leads"] 4 [] (fun us ws => arr [.p 0, .p 1, .p 2, .p 3] us mv26 ws) (fun vs zs => arr [.p 0, .p 1, .p 2, .p 3] vs [] zs)) :
    FnG P w K mg base 4 f fd ["_law_hand_here", "_law_parts_of", "_law_many"] (SpD ⟨K, P, w⟩ cls 3 fn__law_history) := by
  refine fn_okG (N := n__law_history) (den := d__law_history) (own := ownL [3, 4, 5]) F sc__law_history (by decide) fun cdv A outer s H E hr gd => ?_
  have hu := huO hr
  have h4 := Nat.lt_of_succ_lt hu
  have g0 := gdO hr gd
  exact ss_cons (ss_parM3 (i := 3) (j := 4) (l := 5) rfl rfl sc__law_history.nd rfl rfl rfl (by decide) (by decide) (by decide) rfl rfl rfl (sm_new (sf_lst (sa_nil)) (sm_new (sf_lst (sa_nil)) (sm_new (sf_dic) (sm_nil)))) rfl) (ss_cons (ss_for PassesOwn.never rfl (si_range1 rfl C.m_range (sa_cons (sh_val (xv)) (sa_nil))) (sg_name (i := 6) rfl sc__law_history.nd rfl (by ac_nf)) (ss_cons (ss_set (i := 7) rfl sc__law_history.nd rfl (by ac_nf) (ycL [4, 5] D__law_letter hr g0 b26 .nil (sa_cons (sh_val (xv)) (sa_cons (sh_val (xv)) (sa_cons (xs) (sa_cons (xs) (sa_nil))))) (sk_nil) (arrL rfl rfl) (aL (aL (aL (aL aL0)))) aL0)) (ss_cons (ss_if (sb_cmp (op_eqD h4) ok_eqD (sh_val (se_ixA hu (sh_val (xv)) (sh_val (se_int)) (by intro _ _; rfl))) (sh_val (se_str))) (ss_one (ss_put hu (i := 5) rfl (by ac_nf) rfl (sh_val (se_ixA hu (sh_val (xv)) (sh_val (se_int)) (by intro _ _; rfl))) (se_ixA hu (sh_val (xv)) (sh_val (se_int)) (by intro _ _; rfl)))) (ss_one (ss_if (sb_cmp (op_notInA hu) ok_notInA (sh_val (se_cut (sh_val (xv)) (sp_int (se_int)) (sp_no))) (xs)) (ss_one (ss_expr (se_append (i := 4) rfl (by ac_nf) rfl (sa_cons (sh_val (se_cut (sh_val (xv)) (sp_int (se_int)) (sp_no))) (sa_nil))))) (ss_nil)))) (ss_one (ss_expr (se_append (i := 3) rfl (by ac_nf) rfl (sa_cons (sh_val (xv)) (sa_nil)))))))) (ss_frz 3 rfl (ss_one (ss_ret (se_callTy (cr_tupleA rfl) ok_tupleA rfl C.m_tuple bt_tuple (sa_cons (sh_val (xv)) (sa_nil)))))))
abbrev n_read_history : List Str := ["words", "text", "found", "world", "number", "row", "letter"]
theorem sc_read_history : FnScope n_read_history ["words", "text"] (defScope st_read_history) := ⟨rfl, rfl, rfl, by decide +kernel, rfl, by decide +kernel, by decide +kernel⟩
def d_read_history : Den Fl := sSeq (sIf (bNot (bTru (hVal (eUn (gIsi .str) (hVal (eVar 1)))))) (sRaiseI 103 "row" (aVals (aCons (hVal (eC (.int 0))) (aNil)))) (sNx)) (sSeq (sMulti [2, 3] (mCons (eLst (aNil)) (mCons (eMake 0 fn_World____init__ [.p 0, .d 0] [(.tup [])] (aVals (aNil)) (aVals (aNil))) (mNil)))) (sSeq (sFor (iEnum (aCons (hVal (eIf (bTru (hVal (eVar 1))) (eSplit (eVar 1) (eC (.str "\n"))) (eLst (aNil)))) (aNil))) (.tp [.nm 4, .nm 5]) (sSeq (sSet 6 (eCallK fn_read_letter [.p 0] [] (aVals (aCons (hVal (eVar 5)) (aNil))) (aVals (aNil)))) (sSeq (sIf (bOr (bOf (eOp gIsU (hVal (eVar 6)) (hVal (eC .non)))) (bNot (bTru (hVal (eCallK fn_is_letter_in [.p 0, .p 1, .p 2] [] (aVals (aCons (hVal (eVar 0)) (aCons (hVal (eVar 6)) (aCons (hVal (eVar 3)) (aNil))))) (aVals (aNil))))))) (sRaiseI 103 "row" (aVals (aCons (hVal (eVar 4)) (aNil)))) (sNx)) (sSeq (sIf (bOf (eOp gEq (hVal (eOp gIxA (hVal (eVar 6)) (hVal (eC (.int 0))))) (hVal (eC (.str "join"))))) (sDrop (eMeth 0 "join" fn_World__join [.p 0, .p 1, .p 2] [] (eVar 3) (aVals (aCons (hVal (eOp gIxA (hVal (eVar 6)) (hVal (eC (.int 1))))) (aCons (hVal (eOp gIxA (hVal (eVar 6)) (hVal (eC (.int 2))))) (aNil)))) (aVals (aNil)))) (sNx)) (sDrop (eMut 2 gAppend (aVals (aCons (hVal (eVar 6)) (aNil))))))))) (sFrz 2 (sRet (eFn gTupleA (aCons (hVal (eVar 2)) (aNil)))))))
def fnX_read_history : FnX := runFnX 7 d_read_history
def fn_read_history : Fn := noX fnX_read_history
set_option maxRecDepth 100000 in
theorem ok_read_history {f : Addr} {fd : FuncData}  {ad_World____init___0 : Addr} (C : Mod ⟨K, P, w⟩ mg cls) (F : FunD K "read_history" "read_history" (defArgs st_read_history) (defBody st_read_history) (defScope st_read_history) [] [] f fd)
    {f_read_letter : Addr} {fd_read_letter : FuncData} (D_read_letter : DefG P w K mg base cls 3 "read_letter" f_read_letter fd_read_letter ["text"] fn_read_letter)
    {f_is_letter_in : Addr} {fd_is_letter_in : FuncData} (D_is_letter_in : DefG P w K mg base cls 2 "is_letter_in" f_is_letter_in fd_is_letter_in ["words", "thing", "world"] fn_is_letter_in)
    {f_World__join : Addr} {fd_World__join : FuncData} (D_World__join : MetG P w K mg base cls 2 0 "join" f_World__join fd_World__join ["self", "house", "other"] fn_World__join)
    {fmk_World : Addr} {fd_World____init__ : FuncData} (D_mk_World : MakG P w K mg base cls 3 0 "World" fmk_World fd_World____init__ ["self", "joins"] fn_World____init__)
    (E_NoText : ExI P w K mg base 1 "NoText" (cls 103) "row")
    (hd_World____init___0 : DV ⟨K, P, w⟩ (fun _ => none) [] (.ref ad_World____init___0) (.tup []))
    {mv16 : List Value} (b16 : KBn K fd_World____init__ ["self", "joins"] 1 [] (fun us ws => arr [.p 0, .d 0] us mv16 ws) (fun vs zs => arr [.p 0, .d 0] vs [.ref ad_World____init___0] zs))
    {mv17 : List Value} (b17 : KBn K fd_read_letter ["text"] 1 [] (fun us ws => arr [.p 0] us mv17 ws) (fun vs zs => arr [.p 0] vs [] zs))
    {mv18 : List Value} (b18 : KBn K fd_is_letter_in ["words", "thing", "world"] 3 [] (fun us ws => arr [.p 0, .p 1, .p 2] us mv18 ws) (fun vs zs => arr [.p 0, .p 1, .p 2] vs [] zs))
    {mv19 : List Value} (b19 : KBn K fd_World__join ["self", "house", "other"] 3 [] (fun us ws => arr [.p 0, .p 1, .p 2] us mv19 ws) (fun vs zs => arr [.p 0, .p 1, .p 2] vs [] zs)) :
    FnGX P w K mg base 5 f fd ["words", "text"] (SpX ⟨K, P, w⟩ cls ["words", "text"].length fnX_read_history) := by
  refine fn_okGX (N := n_read_history) (den := d_read_history) (own := ownL [2]) F sc_read_history (by decide) fun cdv A outer s H E hr gd => ?_
  have hu := huO hr
  have h4 := Nat.lt_of_succ_lt hu
  have g0 := gdO hr gd
  exact ss_cons (ss_if (sb_not (sb_tru (sh_val (se_isi (T := .str) (by decide) rfl C.m_isinstance rfl C.m_str bt_str (sh_val (xv)))))) (ss_one (ss_raiseI E_NoText hr rfl (sa_cons (sh_val (se_int)) (sa_nil)))) (ss_nil)) (ss_cons (ss_parM (i := 2) (j := 3) rfl rfl sc_read_history.nd rfl rfl (by decide) rfl rfl (sm_new (sf_lst (sa_nil)) (sm_val (yk0 D_mk_World hr g0 b16 (.cons hd_World____init___0 .nil) (sk_nil) (arrL rfl rfl) aL0) (sm_nil))) rfl) (ss_cons (ss_for (passes_of rfl) rfl (si_enum rfl C.m_enumerate (sa_cons (sh_val (se_if (sb_tru (sh_val (xv))) (se_of (sf_split (xv) (se_str))) (se_of (sf_lst (sa_nil))))) (sa_nil))) (sg_tup rfl (sgs_cons (sg_name (i := 4) rfl sc_read_history.nd rfl (by ac_nf)) (sgs_cons (sg_name (i := 5) rfl sc_read_history.nd rfl (by ac_nf)) (sgs_nil))) rfl) (ss_cons (ss_set (i := 6) rfl sc_read_history.nd rfl (by ac_nf) (yc D_read_letter hr g0 b17 .nil (sa_cons (sh_val (xv)) (sa_nil)) (sk_nil) (arrL rfl rfl) (aL aL0) aL0)) (ss_cons (ss_if (sb_w (sw_or (sb_cmp op_isU ok_isU (sh_val (xv)) (sh_val (se_non))) (sw_or1 (sb_not (sb_tru (sh_val (yc D_is_letter_in hr g0 b18 .nil (sa_cons (sh_val (xv)) (sa_cons (sh_val (xv)) (sa_cons (sh_val (xv)) (sa_nil)))) (sk_nil) (arrL rfl rfl) (aL (aL (aL aL0))) aL0))))))) (ss_one (ss_raiseI E_NoText hr rfl (sa_cons (sh_val (xv)) (sa_nil)))) (ss_nil)) (ss_cons (ss_if (sb_cmp (op_eqD h4) ok_eqD (sh_val (se_ixA hu (sh_val (xv)) (sh_val (se_int)) (by intro _ _; rfl))) (sh_val (xg C.g_JOIN))) (ss_one (ss_expr (ym D_World__join hr g0 b19 .nil (xv) (sa_cons (sh_val (se_ixA hu (sh_val (xv)) (sh_val (se_int)) (by intro _ _; rfl))) (sa_cons (sh_val (se_ixA hu (sh_val (xv)) (sh_val (se_int)) (by intro _ _; rfl))) (sa_nil))) (sk_nil) (arrL rfl rfl) (aS (aL (aL aL0))) aL0))) (ss_nil)) (ss_one (ss_expr (se_append (i := 2) rfl (by ac_nf) rfl (sa_cons (sh_val (xv)) (sa_nil))))))))) (ss_frz 2 rfl (ss_one (ss_ret (se_callTy (cr_tupleA rfl) ok_tupleA rfl C.m_tuple bt_tuple (sa_cons (sh_val (xv)) (sa_nil))))))))
abbrev n__law_read_right : List Str := ["_law_terms", "_law_whole_text", "_law_caught", "_law_found", "error", "_law_row_here", "_law_at"]
theorem sc__law_read_right : FnScope n__law_read_right ["_law_terms", "_law_whole_text"] (defScope st__law_read_right) := ⟨rfl, rfl, rfl, by decide +kernel, rfl, by decide +kernel, by decide +kernel⟩
def d__law_read_right : Den Fl := dForget (sSeq (sMulti [2, 3] (mCons (eC .non) (mCons (eC .non) (mNil)))) (sSeq (sTry2 [103] 2 4 (sSetX 3 (eCallX fnX_read_history [.p 0, .p 1] [] (aVals (aCons (hVal (eVar 0)) (aCons (hVal (eVar 1)) (aNil)))) (aVals (aNil))))) (sSeq (sIf (bNot (bTru (hVal (eUn (gIsi .str) (hVal (eVar 1)))))) (sRet (eAnd (eIsx [(103, true)] (eVar 2)) (eOp gEq (hVal (eFn gReprA (aCons (hVal (eXf [103] "row" (eVar 2))) (aNil)))) (hVal (eC (.str "0")))))) (sNx)) (sSeq (sAsg (.tp [.nm 5, .nm 6]) (eIf (bOf (eOp gEq (hVal (eVar 1)) (hVal (eC (.str ""))))) (eTup (aCons (hVal (eTup (aNil))) (aCons (hVal (eC .non)) (aNil)))) (eCallK fn__law_read [.p 0, .p 1] [] (aVals (aCons (hVal (eVar 0)) (aCons (hVal (eVar 1)) (aNil)))) (aVals (aNil))))) (sSeq (sIf (bOf (eOp gNotU (hVal (eVar 5)) (hVal (eC .non)))) (sRet (eAnd (eOp gIsU (hVal (eVar 2)) (hVal (eC .non))) (eOp gEq (hVal (eFn gReprA (aCons (hVal (eVar 3)) (aNil)))) (hVal (eFn gReprA (aCons (hVal (eVar 5)) (aNil))))))) (sNx)) (sRet (eAnd (eIsx [(103, true)] (eVar 2)) (eAnd (eIsx [(103, true)] (eVar 2)) (eOp gEq (hVal (eFn gReprA (aCons (hVal (eXf [103] "row" (eVar 2))) (aNil)))) (hVal (eFn gReprA (aCons (hVal (eVar 6)) (aNil)))))))))))))
def fn__law_read_right : Fn := runFn 7 d__law_read_right
set_option maxRecDepth 100000 in
theorem ok__law_read_right {f : Addr} {fd : FuncData}   (C : Mod ⟨K, P, w⟩ mg cls) (F : FunD K "_law_read_right" "_law_read_right" (defArgs st__law_read_right) (defBody st__law_read_right) (defScope st__law_read_right) [] [] f fd)
    {fx_read_history : Addr} {fd_read_history : FuncData} (DX_read_history : DefGX P w K mg base cls 5 "read_history" fx_read_history fd_read_history ["words", "text"] fnX_read_history)
    {f__law_read : Addr} {fd__law_read : FuncData} (D__law_read : DefG P w K mg base cls 2 "_law_read" f__law_read fd__law_read ["_law_terms", "_law_whole_text"] fn__law_read)
    {mv12 : List Value} (b12 : KBn K fd_read_history ["words", "text"] 2 [] (fun us ws => arr [.p 0, .p 1] us mv12 ws) (fun vs zs => arr [.p 0, .p 1] vs [] zs))
    {mv13 : List Value} (b13 : KBn K fd__law_read ["_law_terms", "_law_whole_text"] 2 [] (fun us ws => arr [.p 0, .p 1] us mv13 ws) (fun vs zs => arr [.p 0, .p 1] vs [] zs)) :
    FnG P w K mg base 6 f fd ["_law_terms", "_law_whole_text"] (SpD ⟨K, P, w⟩ cls 2 fn__law_read_right) := by
  refine fn_okG (N := n__law_read_right) (den := d__law_read_right) (own := ownL []) F sc__law_read_right (by decide) fun cdv A outer s H E hr gd => ?_
  have hu := huO hr
  have h4 := Nat.lt_of_succ_lt hu
  have g0 := gdO hr gd
  exact ss_forget (ss_cons (ss_asgM (is := [2, 3]) rfl rfl (pgs_cons (pg_name (i := 2) sc__law_read_right.nd rfl (by ac_nf)) (pgs_cons (pg_name (i := 3) sc__law_read_right.nd rfl (by ac_nf)) (pgs_nil))) (sm_val (se_non) (sm_val (se_non) (sm_nil))) rfl (by decide)) (ss_cons (ss_try2 (i := 2) (j := 4) (cA := .ref (cls 100)) (cB := .ref (cls 101)) rfl rfl sc__law_read_right.nd rfl rfl (by decide) rfl rfl rfl rfl rfl ⟨rfl, by decide, .inl C.gx_Refused⟩ ⟨rfl, by decide, .inl C.gx_Missing⟩ C.cx_Refused_Missing (fun pn xe => ss_one (ss_setX (i := 3) rfl sc__law_read_right.nd rfl (by ac_nf) (ycX DX_read_history hr g0 b12 .nil (sa_cons (sh_val (xv)) (sa_cons (sh_val (xv)) (sa_nil))) (sk_nil) (arrL rfl rfl) (aL (aL aL0)) aL0))) (by ac_nf)) (ss_cons (ss_if (sb_not (sb_tru (sh_val (se_isi (T := .str) (by decide) rfl C.m_isinstance rfl C.m_str bt_str (sh_val (xv)))))) (ss_one (ss_ret (se_and (se_isx (c := .ref (cls 103)) (cv := .ref (cls 103)) ⟨rfl, by decide, .inl C.gx_NoText⟩ (.own _) C.is_NoText.n (fun q hq => ⟨C.xc_all q.1 (List.mem_map_of_mem (f := Prod.fst) hq), C.is_NoText.t q hq⟩) rfl C.m_isinstance xv) (se_one (se_cmp (op_eqD h4) ok_eqD (sh_val (se_callB (cr_reprA g0 hu) ok_reprA rfl C.m_repr bt_repr (sa_cons (sh_val (se_xf C.xf_row xv)) (sa_nil)))) (sh_val (se_str))))))) (ss_nil)) (ss_cons (ss_asg (se_if (sb_cmp (op_eqD h4) ok_eqD (sh_val (xv)) (sh_val (se_str))) (se_tup (sa_cons (sh_val (se_tup (sa_nil))) (sa_cons (sh_val (se_non)) (sa_nil)))) (yc D__law_read hr g0 b13 .nil (sa_cons (sh_val (xv)) (sa_cons (sh_val (xv)) (sa_nil))) (sk_nil) (arrL rfl rfl) (aL (aL aL0)) aL0)) (sg_tup rfl (sgs_cons (sg_name (i := 5) rfl sc__law_read_right.nd rfl (by ac_nf)) (sgs_cons (sg_name (i := 6) rfl sc__law_read_right.nd rfl (by ac_nf)) (sgs_nil))) rfl)) (ss_cons (ss_if (sb_cmp op_notU ok_notU (sh_val (xv)) (sh_val (se_non))) (ss_one (ss_ret (se_and (se_cmp op_isU ok_isU (sh_val (xv)) (sh_val (se_non))) (se_one (se_cmp (op_eqD h4) ok_eqD (sh_val (se_callB (cr_reprA g0 hu) ok_reprA rfl C.m_repr bt_repr (sa_cons (sh_val (xv)) (sa_nil)))) (sh_val (se_callB (cr_reprA g0 hu) ok_reprA rfl C.m_repr bt_repr (sa_cons (sh_val (xv)) (sa_nil))))))))) (ss_nil)) (ss_one (ss_ret (se_and (se_isx (c := .ref (cls 103)) (cv := .ref (cls 103)) ⟨rfl, by decide, .inl C.gx_NoText⟩ (.own _) C.is_NoText.n (fun q hq => ⟨C.xc_all q.1 (List.mem_map_of_mem (f := Prod.fst) hq), C.is_NoText.t q hq⟩) rfl C.m_isinstance xv) (se_and (se_isx (c := .ty "ValueError") (cv := .type "ValueError") ⟨rfl, by decide, .inr ⟨C.m_ValueError, by decide +kernel, by decide⟩⟩ (.ty _) C.is_ValueError.n (fun q hq => ⟨C.xc_all q.1 (List.mem_map_of_mem (f := Prod.fst) hq), C.is_ValueError.t q hq⟩) rfl C.m_isinstance xv) (se_one (se_cmp (op_eqD h4) ok_eqD (sh_val (se_callB (cr_reprA g0 hu) ok_reprA rfl C.m_repr bt_repr (sa_cons (sh_val (se_xf C.xf_row xv)) (sa_nil)))) (sh_val (se_callB (cr_reprA g0 hu) ok_reprA rfl C.m_repr bt_repr (sa_cons (sh_val (xv)) (sa_nil)))))))))))))))
abbrev n__law_right : List Str := ["_law_hand_here", "_law_terms", "_law_row_here", "_law_whole_text", "_law_letter_here", "_law_texts", "_law_turn", "_law_one"]
theorem sc__law_right : FnScope n__law_right ["_law_hand_here"] (defScope st__law_right) := ⟨rfl, rfl, rfl, by decide +kernel, rfl, by decide +kernel, by decide +kernel⟩
def d__law_right : Den Fl := sSeq (sSet 1 (eCallK fn__law_words [.p 0, .p 1] [] (aVals (aCons (hVal (eVar 0)) (aCons (hVal (eOp gAdd (hVal (eC (.int 1))) (hVal (eCallK fn__law_take [.p 0, .p 1] [] (aVals (aCons (hVal (eVar 0)) (aCons (hVal (eC (.int 3))) (aNil)))) (aVals (aNil)))))) (aNil)))) (aVals (aNil)))) (sSeq (sSet 2 (eCallK fn__law_history [.p 0, .p 1, .p 2] [] (aVals (aCons (hVal (eVar 0)) (aCons (hVal (eVar 1)) (aCons (hVal (eCallK fn__law_take [.p 0, .p 1] [] (aVals (aCons (hVal (eVar 0)) (aCons (hVal (eCallK fn__law_pick [.p 0, .p 1] [] (aVals (aCons (hVal (eVar 0)) (aCons (hVal (eLst (aCons (hVal (eC (.int 21))) (aCons (hVal (eC (.int 21))) (aCons (hVal (eC (.int 21))) (aCons (hVal (eC (.int 201))) (aNil))))))) (aNil)))) (aVals (aNil)))) (aNil)))) (aVals (aNil)))) (aNil))))) (aVals (aNil)))) (sSeq (sSet 3 (eJoin (eC (.str "\n")) (eLc (iSeq (eVar 2)) [4] (.nm 4) (.ret true) (eCallK fn__law_row [.p 0] [] (aVals (aCons (hVal (eVar 4)) (aNil))) (aVals (aNil)))))) (sSeq (sIf (bOr (bOf (eOp gNe (hVal (eCallK fn_show_history [.p 0] [] (aVals (aCons (hVal (eVar 2)) (aNil))) (aVals (aNil)))) (hVal (eVar 3)))) (bOf (eOp gNe (hVal (eCallK fn_show_history [.k 0] [] (aVals (aNil)) (aVals (aCons (hVal (eVar 2)) (aNil))))) (hVal (eVar 3))))) (sRet (eC (.bl false))) (sNx)) (sSeq (sIf (bOf (eOp gNe (hVal (eCallK fn_read_history [.k 1, .k 0] [] (aVals (aNil)) (aVals (aCons (hVal (eVar 3)) (aCons (hVal (eVar 1)) (aNil)))))) (hVal (eVar 2)))) (sRet (eC (.bl false))) (sNx)) (sSeq (sSet 5 (eLst (aCons (hVal (eC .non)) (aCons (hVal (eC (.int 0))) (aCons (hVal (eTup (aNil))) (aCons (hVal (eVar 2)) (aCons (hVal (eLst (aCons (hVal (eVar 3)) (aNil)))) (aCons (hVal (eC (.str ""))) (aCons (hVal (eC (.str " "))) (aCons (hVal (eC (.str "\n"))) (aCons (hVal (eOp gAdd (hVal (eVar 3)) (hVal (eC (.str "\n"))))) (aCons (hVal (eOp gAdd (hVal (eC (.str "\n"))) (hVal (eVar 3)))) (aNil))))))))))))) (sSeq (sFor (iRange1 (aCons (hVal (eC (.int 24))) (aNil))) (.nm 6) (sDrop (eMut 5 gAppend (aVals (aCons (hVal (eCallK fn__law_spoilt [.p 0, .p 1, .p 2] [] (aVals (aCons (hVal (eVar 0)) (aCons (hVal (eVar 3)) (aCons (hVal (eVar 1)) (aNil))))) (aVals (aNil)))) (aNil)))))) (sFrz 5 (sRet (eFn gAll (aCons (hVal (eLc (iSeq (eVar 5)) [7] (.nm 7) (.ret true) (eCallK fn__law_read_right [.p 0, .p 1] [] (aVals (aCons (hVal (eVar 1)) (aCons (hVal (eVar 7)) (aNil)))) (aVals (aNil))))) (aNil)))))))))))
def fn__law_right : Fn := runFn 8 d__law_right
set_option maxRecDepth 100000 in
theorem ok__law_right {f : Addr} {fd : FuncData}   (C : Mod ⟨K, P, w⟩ mg cls) (F : FunD K "_law_right" "_law_right" (defArgs st__law_right) (defBody st__law_right) (defScope st__law_right) [] [] f fd)
    {f__law_words : Addr} {fd__law_words : FuncData} (D__law_words : DefG P w K mg base cls 3 "_law_words" f__law_words fd__law_words ["_law_hand_here", "_law_many"] fn__law_words)
    {f__law_take : Addr} {fd__law_take : FuncData} (D__law_take : DefG P w K mg base cls 1 "_law_take" f__law_take fd__law_take ["_law_hand_here", "_law_many"] fn__law_take)
    {f__law_history : Addr} {fd__law_history : FuncData} (D__law_history : DefG P w K mg base cls 4 "_law_history" f__law_history fd__law_history ["_law_hand_here", "_law_parts_of", "_law_many"] fn__law_history)
    {f__law_pick : Addr} {fd__law_pick : FuncData} (D__law_pick : DefG P w K mg base cls 2 "_law_pick" f__law_pick fd__law_pick ["_law_hand_here", "_law_some"] fn__law_pick)
    {f__law_row : Addr} {fd__law_row : FuncData} (D__law_row : DefG P w K mg base cls 1 "_law_row" f__law_row fd__law_row ["_law_letter_here"] fn__law_row)
    {f_show_history : Addr} {fd_show_history : FuncData} (D_show_history : DefG P w K mg base cls 2 "show_history" f_show_history fd_show_history ["history"] fn_show_history)
    {f_read_history : Addr} {fd_read_history : FuncData} (D_read_history : DefG P w K mg base cls 5 "read_history" f_read_history fd_read_history ["words", "text"] fn_read_history)
    {f__law_spoilt : Addr} {fd__law_spoilt : FuncData} (D__law_spoilt : DefG P w K mg base cls 3 "_law_spoilt" f__law_spoilt fd__law_spoilt ["_law_hand_here", "_law_whole_text", "_law_terms"] fn__law_spoilt)
    {f__law_read_right : Addr} {fd__law_read_right : FuncData} (D__law_read_right : DefG P w K mg base cls 6 "_law_read_right" f__law_read_right fd__law_read_right ["_law_terms", "_law_whole_text"] fn__law_read_right)
    {mv2 : List Value} (b2 : KBn K fd__law_words ["_law_hand_here", "_law_many"] 2 [] (fun us ws => arr [.p 0, .p 1] us mv2 ws) (fun vs zs => arr [.p 0, .p 1] vs [] zs))
    {mv3 : List Value} (b3 : KBn K fd__law_take ["_law_hand_here", "_law_many"] 2 [] (fun us ws => arr [.p 0, .p 1] us mv3 ws) (fun vs zs => arr [.p 0, .p 1] vs [] zs))
    {mv4 : List Value} (b4 : KBn K fd__law_history ["_law_hand_here", "_law_parts_of", "_law_many"] 3 [] (fun us ws => arr [.p 0, .p 1, .p 2] us mv4 ws) (fun vs zs => arr [.p 0, .p 1, .p 2] vs [] zs))
    {mv5 : List Value} (b5 : KBn K fd__law_pick ["_law_hand_here", "_law_some"] 2 [] (fun us ws => arr [.p 0, .p 1] us mv5 ws) (fun vs zs => arr [.p 0, .p 1] vs [] zs))
    {mv6 : List Value} (b6 : KBn K fd__law_row ["_law_letter_here"] 1 [] (fun us ws => arr [.p 0] us mv6 ws) (fun vs zs => arr [.p 0] vs [] zs))
    {mv7 : List Value} (b7 : KBn K fd_show_history ["history"] 1 [] (fun us ws => arr [.p 0] us mv7 ws) (fun vs zs => arr [.p 0] vs [] zs))
    {mv8 : List Value} (b8 : KBn K fd_show_history ["history"] 0 ["history"] (fun us ws => arr [.k 0] us mv8 ws) (fun vs zs => arr [.k 0] vs [] zs))
    {mv9 : List Value} (b9 : KBn K fd_read_history ["words", "text"] 0 ["text", "words"] (fun us ws => arr [.k 1, .k 0] us mv9 ws) (fun vs zs => arr [.k 1, .k 0] vs [] zs))
    {mv10 : List Value} (b10 : KBn K fd__law_spoilt ["_law_hand_here", "_law_whole_text", "_law_terms"] 3 [] (fun us ws => arr [.p 0, .p 1, .p 2] us mv10 ws) (fun vs zs => arr [.p 0, .p 1, .p 2] vs [] zs))
    {mv11 : List Value} (b11 : KBn K fd__law_read_right ["_law_terms", "_law_whole_text"] 2 [] (fun us ws => arr [.p 0, .p 1] us mv11 ws) (fun vs zs => arr [.p 0, .p 1] vs [] zs)) :
    FnG P w K mg base 7 f fd ["_law_hand_here"] (SpD ⟨K, P, w⟩ cls 1 fn__law_right) := by
  refine fn_okG (N := n__law_right) (den := d__law_right) (own := ownL [5]) F sc__law_right (by decide) fun cdv A outer s H E hr gd => ?_
  have hu := huO hr
  have h4 := Nat.lt_of_succ_lt hu
  have g0 := gdO hr gd
  exact ss_cons (ss_set (i := 1) rfl sc__law_right.nd rfl (by ac_nf) (yc D__law_words hr g0 b2 .nil (sa_cons (sh_val (xv)) (sa_cons (sh_val (se_op2 op_addU ok_add (sh_val (se_int)) (sh_val (yc D__law_take hr g0 b3 .nil (sa_cons (sh_val (xv)) (sa_cons (sh_val (se_int)) (sa_nil))) (sk_nil) (arrL rfl rfl) (aL (aL aL0)) aL0)))) (sa_nil))) (sk_nil) (arrL rfl rfl) (aL (aL aL0)) aL0)) (ss_cons (ss_set (i := 2) rfl sc__law_right.nd rfl (by ac_nf) (yc D__law_history hr g0 b4 .nil (sa_cons (sh_val (xv)) (sa_cons (sh_val (xv)) (sa_cons (sh_val (yc D__law_take hr g0 b3 .nil (sa_cons (sh_val (xv)) (sa_cons (sh_val (yc D__law_pick hr g0 b5 .nil (sa_cons (sh_val (xv)) (sa_cons (sh_val (se_of (sf_lst (sa_cons (sh_val (se_int)) (sa_cons (sh_val (se_int)) (sa_cons (sh_val (se_int)) (sa_cons (sh_val (se_int)) (sa_nil)))))))) (sa_nil))) (sk_nil) (arrL rfl rfl) (aL (aL aL0)) aL0)) (sa_nil))) (sk_nil) (arrL rfl rfl) (aL (aL aL0)) aL0)) (sa_nil)))) (sk_nil) (arrL rfl rfl) (aL (aL (aL aL0))) aL0)) (ss_cons (ss_set (i := 3) rfl sc__law_right.nd rfl (by ac_nf) (se_join (se_str) (se_of (sf_lc (ow := [("_law_letter_here", 4)]) rfl sc__law_right.nd (si_seq (xv)) (blkOk_by (by kernel_rfl)) (fun _ _ _ _ _ => sg_name (i := 4) rfl sc__law_right.nd rfl (by ac_nf)) (fun _ _ _ _ _ => sbs_nil) (fun _ _ _ _ _ => yc D__law_row hr g0 b6 .nil (sa_cons (sh_val (xv)) (sa_nil)) (sk_nil) (arrL rfl rfl) (aL aL0) aL0) (by decide) (by decide))))) (ss_cons (ss_if (sb_w (sw_or (sb_cmp (op_neD h4) ok_neD (sh_val (yc D_show_history hr g0 b7 .nil (sa_cons (sh_val (xv)) (sa_nil)) (sk_nil) (arrL rfl rfl) (aL aL0) aL0)) (sh_val (xv))) (sw_or1 (sb_cmp (op_neD h4) ok_neD (sh_val (yc0 D_show_history hr g0 b8 .nil (sk_cons (sh_val (xv)) (sk_nil)) (arrL rfl rfl) (aL aL0))) (sh_val (xv)))))) (ss_one (ss_ret (se_bl))) (ss_nil)) (ss_cons (ss_if (sb_cmp (op_neD h4) ok_neD (sh_val (yc0 D_read_history hr g0 b9 .nil (sk_cons (sh_val (xv)) (sk_cons (sh_val (xv)) (sk_nil))) (arrL rfl rfl) (aL (aL aL0)))) (sh_val (xv))) (ss_one (ss_ret (se_bl))) (ss_nil)) (ss_cons (ss_own (i := 5) rfl sc__law_right.nd rfl (by ac_nf) (sf_lst (sa_cons (sh_val (se_non)) (sa_cons (sh_val (se_int)) (sa_cons (sh_val (se_tup (sa_nil))) (sa_cons (sh_val (xv)) (sa_cons (sh_val (se_of (sf_lst (sa_cons (sh_val (xv)) (sa_nil))))) (sa_cons (sh_val (se_str)) (sa_cons (sh_val (se_str)) (sa_cons (sh_val (se_str)) (sa_cons (sh_val (se_op2 op_addU ok_add (sh_val (xv)) (sh_val (se_str)))) (sa_cons (sh_val (se_op2 op_addU ok_add (sh_val (se_str)) (sh_val (xv)))) (sa_nil))))))))))))) (ss_cons (ss_for PassesOwn.never rfl (si_range1 rfl C.m_range (sa_cons (sh_val (se_int)) (sa_nil))) (sg_name (i := 6) rfl sc__law_right.nd rfl (by ac_nf)) (ss_one (ss_expr (se_append (i := 5) rfl (by ac_nf) rfl (sa_cons (sh_val (yc D__law_spoilt hr g0 b10 .nil (sa_cons (sh_val (xv)) (sa_cons (sh_val (xv)) (sa_cons (sh_val (xv)) (sa_nil)))) (sk_nil) (arrL rfl rfl) (aL (aL (aL aL0))) aL0)) (sa_nil)))))) (ss_frz 5 rfl (ss_one (ss_ret (se_callB (cr_all rfl) ok_all rfl C.m_all bt_all (sa_cons (sh_val (se_of (sf_lc (ow := [("_law_one", 7)]) rfl sc__law_right.nd (si_seq (xv)) (blkOk_by (by kernel_rfl)) (fun _ _ _ _ _ => sg_name (i := 7) rfl sc__law_right.nd rfl (by ac_nf)) (fun _ _ _ _ _ => sbs_nil) (fun _ _ _ _ _ => yc D__law_read_right hr g0 b11 .nil (sa_cons (sh_val (xv)) (sa_cons (sh_val (xv)) (sa_nil))) (sk_nil) (arrL rfl rfl) (aL (aL aL0)) aL0) (by decide) (by decide)))) (sa_nil))))))))))))
abbrev n_law : List Str := ["_law_script", "_law_k"]
theorem sc_law : FnScope n_law ["_law_script"] (defScope st_law) := ⟨rfl, rfl, rfl, by decide +kernel, rfl, by decide +kernel, by decide +kernel⟩
def d_law : Den Fl := sRet (eFn gAll (aCons (hVal (eLc (iRange1 (aCons (hVal (eFn gMax2 (aCons (hVal (eC (.int 1))) (aCons (hVal (eFn gMin2 (aCons (hVal (eFn gLen (aCons (hVal (eVar 0)) (aNil)))) (aCons (hVal (eC (.int 3))) (aNil))))) (aNil))))) (aNil))) [1] (.nm 1) (.ret true) (eCallK fn__law_right [.p 0] [] (aVals (aCons (hVal (eCallK fn__law_hand [.p 0, .p 1] [] (aVals (aCons (hVal (eVar 0)) (aCons (hVal (eVar 1)) (aNil)))) (aVals (aNil)))) (aNil))) (aVals (aNil))))) (aNil)))
def fn_law : Fn := runFn 2 d_law
set_option maxRecDepth 100000 in
theorem ok_law {f : Addr} {fd : FuncData}   (C : Mod ⟨K, P, w⟩ mg cls) (F : FunD K "law" "law" (defArgs st_law) (defBody st_law) (defScope st_law) [] [] f fd)
    {f__law_right : Addr} {fd__law_right : FuncData} (D__law_right : DefG P w K mg base cls 7 "_law_right" f__law_right fd__law_right ["_law_hand_here"] fn__law_right)
    {f__law_hand : Addr} {fd__law_hand : FuncData} (D__law_hand : DefG P w K mg base cls 1 "_law_hand" f__law_hand fd__law_hand ["_law_script", "_law_k"] fn__law_hand)
    {mv0 : List Value} (b0 : KBn K fd__law_right ["_law_hand_here"] 1 [] (fun us ws => arr [.p 0] us mv0 ws) (fun vs zs => arr [.p 0] vs [] zs))
    {mv1 : List Value} (b1 : KBn K fd__law_hand ["_law_script", "_law_k"] 2 [] (fun us ws => arr [.p 0, .p 1] us mv1 ws) (fun vs zs => arr [.p 0, .p 1] vs [] zs)) :
    FnG P w K mg base 8 f fd ["_law_script"] (SpD ⟨K, P, w⟩ cls 1 fn_law) := by
  refine fn_okG (N := n_law) (den := d_law) (own := ownL []) F sc_law (by decide) fun cdv A outer s H E hr gd => ?_
  have g0 := gdO hr gd
  exact ss_one (ss_ret (se_callB (cr_all rfl) ok_all rfl C.m_all bt_all (sa_cons (sh_val (se_of (sf_lc (ow := [("_law_k", 1)]) rfl sc_law.nd (si_range1 rfl C.m_range (sa_cons (sh_val (se_callB (call_max2 rfl) ok_max2 rfl C.m_max bt_max (sa_cons (sh_val (se_int)) (sa_cons (sh_val (se_callB (call_min2 rfl) ok_min2 rfl C.m_min bt_min (sa_cons (sh_val (se_callB cr_lenU ok_len rfl C.m_len bt_len (sa_cons (sh_val (xv)) (sa_nil)))) (sa_cons (sh_val (se_int)) (sa_nil))))) (sa_nil))))) (sa_nil))) (blkOk_by (by kernel_rfl)) (fun _ _ _ _ _ => sg_name (i := 1) rfl sc_law.nd rfl (by ac_nf)) (fun _ _ _ _ _ => sbs_nil) (fun _ _ _ _ _ => yc D__law_right hr g0 b0 .nil (sa_cons (sh_val (yc D__law_hand hr g0 b1 .nil (sa_cons (sh_val (xv)) (sa_cons (sh_val (xv)) (sa_nil))) (sk_nil) (arrL rfl rfl) (aL (aL aL0)) aL0)) (sa_nil)) (sk_nil) (arrL rfl rfl) (aL aL0) aL0) (by decide) (by decide)))) (sa_nil))))
theorem sc_NoText____init__ : FnScope ["self", "row"] ["self", "row"] (defScope st_NoText____init__) := ⟨rfl, rfl, rfl, by decide +kernel, rfl, by decide +kernel, by decide +kernel⟩
end
end Lk77
namespace Lk77
open PySem PySem.Spec L2 MI
set_option hygiene false
local macro_rules | `(tactic| bv_omega) => `(tactic| (repeat (first | refine w_seq ?_ | refine w_set ?_ | refine w_rt ?_ | refine w_drop ?_ | refine w_frz ?_ | refine w_multi ?_ | refine w_mcons ?_ | refine w_mnil ?_ | refine w_asg ?_ | refine w_hval ?_ | refine w_var rfl ?_ | refine w_c ?_ | refine w_hslot rfl ?_ | refine w_acons ?_ | refine w_anil ?_ | refine w_op ?_ | refine w_un ?_ | refine w_fn ?_ | refine w_tup ?_ | refine w_lst ?_ | refine w_avals ?_ | refine w_alooks ?_ | refine w_callK ?_ | refine w_cut ?_ | refine w_pint ?_ | refine w_pno ?_ | refine w_bof ?_ | refine w_nx ?_ | refine w_ret ?_ | refine w_fld ?_ | refine w_meth ?_ | refine w_make ?_ | refine w_fldS ?_ | refine w_share ?_ | refine w_shareD ?_ | refine w_putD ?_ | refine w_mutO ?_ | refine w_asgL ?_ | refine w_bnot ?_ | refine w_btru ?_ | refine xT lv0 (fitk (Nat.le_of_ble_eq_true rfl)) ?_ | refine ⟨_, lv0, ?_⟩ | refine xT lv1 (fitk (Nat.le_of_ble_eq_true rfl)) ?_ | refine ⟨_, lv1, ?_⟩ | refine xT lv2 (fitk (Nat.le_of_ble_eq_true rfl)) ?_ | refine ⟨_, lv2, ?_⟩ | refine xT lv3 (fitk (Nat.le_of_ble_eq_true rfl)) ?_ | refine ⟨_, lv3, ?_⟩ | refine xT lv4 (fitk (Nat.le_of_ble_eq_true rfl)) ?_ | refine ⟨_, lv4, ?_⟩ | refine xT lv5 (fitk (Nat.le_of_ble_eq_true rfl)) ?_ | refine ⟨_, lv5, ?_⟩ | refine xT rfl (fitk (Nat.le_of_ble_eq_true rfl)) ?_ | refine x3 rfl rfl rfl ?_ | refine x2 rfl rfl ?_ | refine x2L rfl rfl ?_ | refine Exists.intro _ (Exists.intro _ (And.intro rfl (And.intro rfl ?_))) | refine Exists.intro _ (And.intro rfl ?_))))
local macro_rules | `(tactic| ac_rfl) => `(tactic| (repeat (first | refine w_seq ?_ | refine w_set ?_ | refine w_rt ?_ | refine w_drop ?_ | refine w_frz ?_ | refine w_multi ?_ | refine w_mcons ?_ | refine w_mnil ?_ | refine w_asg ?_ | refine w_hval ?_ | refine w_var rfl ?_ | refine w_c ?_ | refine w_hslot rfl ?_ | refine w_acons ?_ | refine w_anil ?_ | refine w_op ?_ | refine w_un ?_ | refine w_fn ?_ | refine w_tup ?_ | refine w_lst ?_ | refine w_avals ?_ | refine w_alooks ?_ | refine w_callK ?_ | refine w_cut ?_ | refine w_pint ?_ | refine w_pno ?_ | refine w_bof ?_ | refine w_nx ?_ | refine w_ret ?_ | refine w_fld ?_ | refine w_meth ?_ | refine w_make ?_ | refine w_fldS ?_ | refine w_share ?_ | refine w_shareD ?_ | refine w_putD ?_ | refine w_mutO ?_ | refine w_asgL ?_ | refine w_bnot ?_ | refine w_btru ?_ | refine xT lv0 (fitk (Nat.le_of_ble_eq_true rfl)) ?_ | refine ⟨_, lv0, ?_⟩ | refine xT lv1 (fitk (Nat.le_of_ble_eq_true rfl)) ?_ | refine ⟨_, lv1, ?_⟩ | refine xT lv2 (fitk (Nat.le_of_ble_eq_true rfl)) ?_ | refine ⟨_, lv2, ?_⟩ | refine xT lv3 (fitk (Nat.le_of_ble_eq_true rfl)) ?_ | refine ⟨_, lv3, ?_⟩ | refine xT lv4 (fitk (Nat.le_of_ble_eq_true rfl)) ?_ | refine ⟨_, lv4, ?_⟩ | refine xT lv5 (fitk (Nat.le_of_ble_eq_true rfl)) ?_ | refine ⟨_, lv5, ?_⟩ | refine xT rfl (fitk (Nat.le_of_ble_eq_true rfl)) ?_ | refine x3 rfl rfl rfl ?_ | refine x2 rfl rfl ?_ | refine Exists.intro _ (And.intro rfl ?_))))
abbrev Ld := List (Int × Int)
abbrev ldD (l : Ld) : D := .dic (dcI D.int l)
structure GL (l : Ld) : Prop where
  dec : ∀ q ∈ l, 0 <= q.2 /\ q.2 < q.1
  nd : (l.map (·.1)).Nodup
  len : l.length <= 400
def cnt (l : Ld) (x : Int) : Nat := (l.filter fun q => decide (q.1 <= x)).length
theorem lkI_mem {x y : Int} : ∀ {l : Ld}, lkI x l = some y -> (x, y) ∈ l
  | [], h => by cases h
  | (a, b) :: l, h => by
    unfold lkI at h
    split at h
    · next e => cases h; rw [e]; exact List.mem_cons_self ..
    · exact List.mem_cons_of_mem _ (lkI_mem h)
theorem filt_lt {α : Type} {p q : α -> Bool} : ∀ {l : List α} {a : α}, (∀ x ∈ l, p x = true -> q x = true) -> a ∈ l -> q a = true -> p a = false -> (l.filter p).length < (l.filter q).length
  | [], a, _, h, _, _ => by cases h
  | x :: l, a, hi, h, hq, hp => by
    have le : ∀ (l : List α), (∀ x ∈ l, p x = true -> q x = true) -> (l.filter p).length <= (l.filter q).length := by
      intro l
      induction l with
      | nil => intro _; exact Nat.le_refl _
      | cons y r ih =>
        intro h
        have := ih fun z hz => h z (List.mem_cons_of_mem _ hz)
        rw [List.filter_cons, List.filter_cons]
        by_cases e : p y = true
        · rw [if_pos e, if_pos (h y (List.mem_cons_self ..) e), List.length_cons, List.length_cons]; omega
        · rw [if_neg e]
          split
          · rw [List.length_cons]; omega
          · exact this
    have hl := le l fun z hz => hi z (List.mem_cons_of_mem _ hz)
    rw [List.filter_cons, List.filter_cons]
    rcases List.mem_cons.mp h with rfl | h
    · rw [if_neg (by rw [hp]; simp), if_pos hq, List.length_cons]; omega
    · have := filt_lt (fun z hz => hi z (List.mem_cons_of_mem _ hz)) h hq hp
      by_cases e : p x = true
      · rw [if_pos e, if_pos (hi x (List.mem_cons_self ..) e), List.length_cons, List.length_cons]; omega
      · rw [if_neg e]
        split
        · rw [List.length_cons]; omega
        · exact this
theorem cnt_lt {l : Ld} (g : GL l) {x y : Int} (h : lkI x l = some y) : cnt l y < cnt l x := by
  have hm := lkI_mem h
  have hd := g.dec _ hm
  refine filt_lt (a := (x, y)) (fun q _ hq => ?_) hm (by simp) (by simp; omega)
  have : q.1 <= y := of_decide_eq_true hq
  exact decide_eq_true (by simp at hd; omega)
theorem cnt_le {l : Ld} (g : GL l) (x : Int) : cnt l x <= 400 := Nat.le_trans (List.length_filter_le ..) g.len
inductive Cal (l : Ld) : Int -> Int -> Prop
  | stop {x : Int} : lkI x l = none -> Cal l x x
  | go {x y z : Int} : lkI x l = some y -> Cal l y z -> Cal l x z
theorem Cal.det {l : Ld} {x y z : Int} (h : Cal l x y) (k : Cal l x z) : y = z := by
  induction h with
  | stop e =>
    cases k with
    | stop _ => rfl
    | go e2 _ => rw [e] at e2; cases e2
  | go e _ ih =>
    cases k with
    | stop e2 => rw [e] at e2; cases e2
    | go e2 k2 => rw [e] at e2; cases e2; exact ih k2
theorem cal_ex {l : Ld} (g : GL l) : ∀ (n : Nat) (x : Int), cnt l x < n -> ∃ y, Cal l x y
  | 0, x, h => by omega
  | n + 1, x, h => by
    cases e : lkI x l with
    | none => exact ⟨x, .stop e⟩
    | some y =>
      have := cnt_lt g e
      obtain ⟨z, hz⟩ := cal_ex g n y (by omega)
      exact ⟨z, .go e hz⟩
theorem cal_all {l : Ld} (g : GL l) (x : Int) : ∃ y, Cal l x y := cal_ex g _ x (Nat.lt_succ_self _)
theorem Cal.le {l : Ld} (g : GL l) {x y : Int} (h : Cal l x y) : y <= x := by
  induction h with
  | stop _ => exact Int.le_refl _
  | go e _ ih =>
    have := g.dec _ (lkI_mem e)
    simp at this
    omega
theorem Cal.root {l : Ld} {x y : Int} (h : Cal l x y) : lkI y l = none := by
  induction h with
  | stop e => exact e
  | go _ _ ih => exact ih
theorem Cal.nn {l : Ld} (g : GL l) {x y : Int} (h : Cal l x y) (h0 : 0 <= x) : 0 <= y := by
  induction h with
  | stop _ => exact h0
  | go e _ ih => exact ih (g.dec _ (lkI_mem e)).1
theorem GL.more {l : Ld} (g : GL l) {h o : Int} (h0 : 0 <= h) (h1 : h < o) (hr : lkI o l = none) (hl : l.length < 400) : GL (l ++ [(o, h)]) := by
  refine ⟨fun q hq => ?_, ?_, by rw [List.length_append, List.length_singleton]; omega⟩
  · rcases List.mem_append.mp hq with z | z
    · exact g.dec q z
    · rw [List.mem_singleton.mp z]; exact ⟨h0, h1⟩
  · rw [List.map_append, List.nodup_append]
    refine ⟨g.nd, by simp, fun a ha b hb => ?_⟩
    simp at hb
    subst hb
    rintro rfl
    exact lkI_none.mp hr ha
theorem GL.nil : GL [] := ⟨by simp, by simp, by simp⟩
theorem lawcal_ok {l : Ld} (g : GL l) {x y : Int} (h : Cal l x y) {st : Sto} : FS fn__law_called [ldD l, .int x] st fun d st' => d = .int y /\ st' = st := by
  refine fs_run ?_
  unfold d__law_called
  refine w_seq (w_while (fun k m => ∃ x', m = ⟨[some (ldD l), some (.int x')], st⟩ /\ Cal l x' y /\ k = cnt l x') 1000 (cnt l x) _ (by have := cnt_le g x; omega) ⟨x, rfl, h, rfl⟩ ?_)
  rintro k m ⟨x', rfl, hc, rfl⟩
  bv_omega
  have ed : (dget (dcI D.int l) (.int x')).isSome = (lkI x' l).isSome := by rw [dget_I]; cases lkI x' l <;> rfl
  rw [ed]
  refine ⟨fun hb => ?_, fun hb => ?_⟩
  · bv_omega
    refine ⟨?_, rfl⟩
    cases hc with
    | stop _ => rfl
    | go e _ => rw [e] at hb; cases hb
  · cases hc with
    | stop e => rw [e] at hb; cases hb
    | go e hc =>
      bv_omega
      refine x3 rfl rfl (ix_dicI e) ?_
      exact ⟨_, cnt_lt g e, _, rfl, hc, rfl⟩
abbrev wfs (a b : Nat) : List (Str × D) := [("done", .obj a), ("leads", .obj b)]
structure Wr (st : Sto) (n a b : Nat) (l : Ld) (dn : List D) : Prop where
  ins : st[n]? = some (.ins 0 (wfs a b))
  lst : st[a]? = some (.lst dn)
  dic : st[b]? = some (.dic (dcI D.int l))
theorem Wr.at {st : Sto} {n a b : Nat} {l : Ld} {dn : List D} (w : Wr st n a b l dn) {sl : List (Option D)} : insAt 0 (.obj n) ⟨sl, st⟩ = some (n, wfs a b) := by
  unfold insAt
  simp only [w.ins, if_true]
theorem Wr.look {st : Sto} {n a b : Nat} {l : Ld} {dn : List D} (w : Wr st n a b l dn) {sl : List (Option D)} : MI.look (.val (.obj b)) ⟨sl, st⟩ = some (ldD l) := by
  simp only [MI.look, w.dic]
theorem lk_leads {a b : Nat} : (wfs a b).lookup ("leads" : Str) = some (.obj b) := by rfl
theorem lk_done {a b : Nat} : (wfs a b).lookup ("done" : Str) = some (.obj a) := by rfl
theorem lk_called {a b : Nat} : ((wfs a b).lookup ("called" : Str)).isNone = true := by rfl
theorem lk_join {a b : Nat} : ((wfs a b).lookup ("join" : Str)).isNone = true := by rfl
theorem called_ok {st : Sto} {n a b : Nat} {l : Ld} {dn : List D} (w : Wr st n a b l dn) (g : GL l) {x y : Int} (h : Cal l x y) : FS fn_World__called [.obj n, .int x] st fun d st' => d = .int y /\ st' = st := by
  refine fs_run ?_
  unfold d_World__called
  refine w_seq (w_while (fun k m => ∃ x', m = ⟨[some (.obj n), some (.int x')], st⟩ /\ Cal l x' y /\ k = cnt l x') 1000 (cnt l x) _ (by have := cnt_le g x; omega) ⟨x, rfl, h, rfl⟩ ?_)
  rintro k m ⟨x', rfl, hc, rfl⟩
  bv_omega
  refine ⟨_, _, _, w.at, lk_leads, ?_⟩
  refine x3 rfl w.look in_dicI ?_
  refine ⟨_, rfl, fun hb => ?_, fun hb => ?_⟩
  · bv_omega
    refine ⟨?_, rfl⟩
    cases hc with
    | stop _ => rfl
    | go e _ => rw [e] at hb; cases hb
  · cases hc with
    | stop e => rw [e] at hb; cases hb
    | go e hc =>
      bv_omega
      refine ⟨_, _, _, w.at, lk_leads, ?_⟩
      bv_omega
      refine x3 w.look rfl (ix_dicI e) ?_
      exact ⟨_, cnt_lt g e, _, rfl, hc, rfl⟩
theorem set_dicI {l : Ld} {o h : Int} (hr : lkI o l = none) (hl : l.length <= 1000) : gSet (.dic (dcI D.int l)) (.int o) (.int h) = some (.dic (dcI D.int (l ++ [(o, h)]))) := by
  show (if isKey (.int o) && decide ((dcI D.int l).length < sizeLine) then some (D.dic (dput (dcI D.int l) (.int o) (.int h))) else none) = _
  rw [if_pos (by rw [isKey_int, Bool.true_and, decide_eq_true_eq, List.length_map, sizeLine_eq]; omega), dput_new (enc := D.int) (lkI_none.mp hr)]
theorem sort2 {h o : Int} (hlt : h < o) : isortD leD [.int h, .int o] = [.int h, .int o] := by
  have := isortD_int (l := [h, o])
  have e : srtI [h, o] = [h, o] := by
    unfold srtI
    simp only [List.foldr, insI]
    rw [if_pos (by omega)]
  rw [e] at this
  exact this
theorem getset {α : Type} {l : List α} {i j : Nat} {x y : α} (h : l[j]? = some y) (ne : i ≠ j) : (l.set i x)[j]? = some y := by rw [List.getElem?_set_ne ne]; exact h
theorem wjoin_ok {st : Sto} {n a b : Nat} {l : Ld} {dn : List D} (w : Wr st n a b l dn) (nb : b ≠ n) (na : b ≠ a) (g : GL l) {h o : Int} (h0 : 0 <= h) (h1 : h < o) (hr : lkI h l = none) (ho : lkI o l = none) (hl : l.length <= 1000) (hd : dn.length <= 1000) :
    FS fn_World__join [.obj n, .int h, .int o] st fun d st' => d = .non /\ st' = (st.set b (.dic (dcI D.int (l ++ [(o, h)])))).set a (.lst (dn ++ [.tup [.tup [.int h, .int o], .int o]])) := by
  refine fs_run ?_
  unfold d_World__join
  bv_omega
  refine ⟨_, _, w.at, lk_called, ?_⟩
  bv_omega
  refine (called_ok w g (.stop hr)).mono ?_
  rintro d st' ⟨rfl, rfl⟩
  bv_omega
  refine ⟨_, _, w.at, lk_called, ?_⟩
  bv_omega
  refine (called_ok w g (.stop ho)).mono ?_
  rintro d st'' ⟨rfl, rfl⟩
  bv_omega
  rw [sort2 h1]
  refine ⟨_, _, rfl, rfl, ?_⟩
  show W _ ⟨[some (.obj n), some (.int h), some (.int o), some (.int h), some (.int o)], _⟩ _
  refine w_seq (w_if ?_)
  bv_omega
  have ne : PyData.eqv (.int h) (.int o) = false := by
    simp [PyData.eqv]
    omega
  refine ⟨fun z => ?_, fun _ => ?_⟩
  · rw [ne] at z; cases z
  bv_omega
  refine ⟨_, _, _, w.at, lk_leads, ?_⟩
  bv_omega
  refine ⟨_, _, _, _, rfl, w.dic, rfl, set_dicI ho hl, ?_⟩
  have w2 : Wr (st''.set b (.dic (dcI D.int (l ++ [(o, h)])))) n a b (l ++ [(o, h)]) dn := ⟨getset w.ins nb, getset w.lst na, by rw [List.getElem?_set_self]; exact (List.getElem?_eq_some_iff.mp w.dic).1⟩
  bv_omega
  refine ⟨_, _, _, w2.at, lk_done, ?_⟩
  refine ⟨_, _, rfl, w2.lst, ?_⟩
  bv_omega
  refine ⟨_, _, _, w2.lst, append_ok (by omega), ?_⟩
  exact ⟨rfl, rfl⟩
theorem fs_of {f : MI.Fn} {ds : List D} {st st' : Sto} {d : D} {P : D -> Sto -> Prop} (e : f ds st = some (d, st')) (q : P d st') : FS f ds st P := ⟨⟨d, st', e, q⟩⟩
def isNum : D -> Bool
  | .int i => decide (0 <= i)
  | _ => false
def elI (e : D) : Bool := match e with
  | .str w => lowS w
  | .non | .bl _ | .int _ | .tup _ | .lst _ | .dic _ => true
  | _ => false
def okI : D -> Bool
  | .tup ds => ds.all elI
  | d => elI d
theorem num_ok {e : D} (h : elI e = true) {st : Sto} : FS fn_is_number [e, .int 0] st fun d st' => d = .bl (isNum e) /\ st' = st := by
  refine fs_run ?_
  unfold d_is_number
  refine w_rt (w_eand ?_)
  cases e with
  | int i =>
    bv_omega
    refine ⟨fun _ => ?_, fun z => nomatch z⟩
    refine w_eand ?_
    refine w_bof ?_
    refine w_bind ?_
    bv_omega
    refine ⟨fun _ => ?_, fun z => nomatch z⟩
    bv_omega
    exact ⟨rfl, rfl⟩
  | bl b =>
    bv_omega
    refine ⟨fun _ => ?_, fun z => nomatch z⟩
    refine w_eand ?_
    refine w_bof ?_
    refine w_bind ?_
    bv_omega
    exact ⟨(fun z => nomatch z), fun _ => ⟨rfl, rfl⟩⟩
  | obj n => cases h
  | set n => cases h
  | dit n => cases h
  | scr n => cases h
  | _ =>
    bv_omega
    exact ⟨(fun z => nomatch z), fun _ => ⟨rfl, rfl⟩⟩
def isL (ws : List Str) (l : Ld) : D -> Bool
  | .tup [.str w, .int h, .int o] => decide (0 <= h) && (decide (0 <= o) && (if w = "join" then decide (h < o) && ((lkI h l).isNone && (lkI o l).isNone) else decide (w ∈ ws)))
  | _ => false
abbrev wsD (ws : List Str) : D := .tup (ws.map .str)
theorem low_join : lowS "join" = true := by kernel_rfl
theorem eq_join {w : Str} (h : lowS w = true) : gEq (.str w) (.str "join") = some (.bl (decide (w = "join"))) := by
  obtain ⟨c, e, hc⟩ := kd_eq (Kd.str h (n := 0)) (Kd.str low_join (n := 0))
  rw [e]
  congr 2
  rw [Bool.eq_iff_iff, hc, decide_eq_true_eq]
  exact ⟨fun z => D.str.inj z, fun z => by rw [z]⟩
theorem in_ws {w : Str} {ws : List Str} (h : lowS w = true) (hw : ∀ x ∈ ws, lowS x = true) : gInA (.str w) (wsD ws) = some (.bl (decide (w ∈ ws))) := by
  obtain ⟨b, hb⟩ : ∃ b, RN 1 b (wsD ws) := Kd.tup (n := 0) fun d hd => by
    obtain ⟨x, hx, rfl⟩ := List.mem_map.mp hd
    exact Kd.str (hw x hx)
  obtain ⟨c, e, _, hc⟩ := gIn_tup (RN.str h (n := 0)) hb
  rw [e]
  congr 2
  rw [Bool.eq_iff_iff, hc, decide_eq_true_eq]
  constructor
  · intro z
    obtain ⟨x, hx, e⟩ := List.mem_map.mp z
    rw [<- D.str.inj e]; exact hx
  · intro z; exact List.mem_map.mpr ⟨w, z, rfl⟩
theorem cal_self {l : Ld} (g : GL l) {x y : Int} (h : Cal l x y) : PyData.eqv (.int y) (.int x) = (lkI x l).isNone := by
  cases h with
  | stop e => rw [e]; simp [PyData.eqv]
  | go e h2 =>
    have h3 := h2.le g
    have h4 := (g.dec _ (lkI_mem e)).2
    rw [e]
    simp [PyData.eqv]
    simp at h4
    omega
theorem ne3 {n : Nat} (h : n ≠ 3) : PyData.eqv (.int (n : Nat)) (.int 3) = false := by
  simp [PyData.eqv]
  omega
theorem letter_in_ok {st0 : Sto} {n0 a0 b0 : Nat} {l : Ld} {dn : List D} (w0 : Wr st0 n0 a0 b0 l dn) (g : GL l) {ws : List Str} (hw : ∀ x ∈ ws, lowS x = true) {d : D} (hd : okI d = true) :
    FS fn_is_letter_in [wsD ws, d, .obj n0] st0 fun r st' => r = .bl (isL ws l d) /\ st' = st0 := by
  refine fs_run ?_
  unfold d_is_letter_in
  refine w_seq (w_if (w_bor ?_))
  cases d with
  | obj n => cases hd
  | set n => cases hd
  | dit n => cases hd
  | scr n => cases hd
  | tup ds =>
    bv_omega
    refine ⟨(fun z => nomatch z), fun _ => ?_⟩
    refine w_bor ?_
    bv_omega
    by_cases hl : ds.length = 3
    · obtain ⟨a, b, c, rfl⟩ : ∃ a b c, ds = [a, b, c] := by
        match ds, hl with
        | [a, b, c], _ => exact ⟨a, b, c, rfl⟩
      have hab : elI a = true /\ elI b = true /\ elI c = true := by
        have : ([a, b, c].all elI) = true := hd
        simpa [Bool.and_eq_true] using this
      refine ⟨(fun z => nomatch z), fun _ => ?_⟩
      have str : (∃ w, a = .str w) \/ (gIsi .str a = some (.bl false) /\ ∀ m, look (.val a) m = some a) := by
        cases a with
        | str w => exact .inl ⟨w, rfl⟩
        | obj n => cases hab.1
        | set n => cases hab.1
        | dit n => cases hab.1
        | scr n => cases hab.1
        | _ => exact .inr ⟨rfl, fun m => rfl⟩
      rcases str with ⟨w, rfl⟩ | ⟨hs, hlk⟩
      · have hlw : lowS w = true := hab.1
        bv_omega
        refine ⟨(fun z => nomatch z), fun _ => ?_⟩
        bv_omega
        show W _ ⟨[some (wsD ws), some (.tup [.str w, b, c]), some (.obj n0), some (.str w), some b, some c], st0⟩ _
        refine w_if (w_bor ?_)
        bv_omega
        refine (num_ok hab.2.1).mono ?_
        rintro d st' ⟨rfl, rfl⟩
        bv_omega
        have lb : ∀ x : Bool, gTru (.bl x) = some x := fun _ => rfl
        by_cases nb : isNum b = true
        · rw [nb]
          refine ⟨(fun z => nomatch z), fun _ => ?_⟩
          bv_omega
          refine (num_ok hab.2.2).mono ?_
          rintro d st' ⟨rfl, rfl⟩
          bv_omega
          by_cases nc : isNum c = true
          · rw [nc]
            refine ⟨(fun z => nomatch z), fun _ => ?_⟩
            obtain ⟨h, rfl, h0⟩ : ∃ h, b = .int h /\ 0 <= h := by
              cases b with
              | int h => exact ⟨h, rfl, of_decide_eq_true nb⟩
              | _ => cases nb
            obtain ⟨o, rfl, o0⟩ : ∃ o, c = .int o /\ 0 <= o := by
              cases c with
              | int h => exact ⟨h, rfl, of_decide_eq_true nc⟩
              | _ => cases nc
            refine w_nx ?_
            refine w_seq (w_if (w_bof (w_op ?_)))
            refine w_hval (w_var rfl (w_hval (w_c ?_)))
            refine x3 rfl rfl (eq_join hlw) ?_
            refine ⟨_, rfl, fun hj => ?_, fun hj => ?_⟩
            · have hj := of_decide_eq_true hj
              subst hj
              have eL : isL ws l (.tup [.str "join", .int h, .int o]) = (decide (h < o) && ((lkI h l).isNone && (lkI o l).isNone)) := by
                show (decide (0 <= h) && (decide (0 <= o) && (if ("join" : Str) = "join" then decide (h < o) && ((lkI h l).isNone && (lkI o l).isNone) else decide (("join" : Str) ∈ ws)))) = _
                rw [if_pos rfl, decide_eq_true h0, decide_eq_true o0, Bool.true_and, Bool.true_and]
              rw [eL]
              refine w_rt (w_eand ?_)
              bv_omega
              refine ⟨fun hlt => ?_, fun hlt => ?_⟩
              · rw [hlt, Bool.true_and]
                obtain ⟨y1, c1⟩ := cal_all g h
                obtain ⟨y2, c2⟩ := cal_all g o
                refine w_eand ?_
                bv_omega
                refine ⟨_, _, w0.at, lk_called, ?_⟩
                bv_omega
                refine (called_ok w0 g c1).mono ?_
                rintro d st' ⟨rfl, rfl⟩
                bv_omega
                rw [cal_self g c1]
                refine ⟨fun hr => ?_, fun hr => ?_⟩
                · rw [hr, Bool.true_and]
                  bv_omega
                  refine ⟨_, _, w0.at, lk_called, ?_⟩
                  bv_omega
                  refine (called_ok w0 g c2).mono ?_
                  rintro d st' ⟨rfl, rfl⟩
                  bv_omega
                  rw [cal_self g c2]
                  exact ⟨rfl, rfl⟩
                · rw [hr]; exact ⟨rfl, rfl⟩
              · rw [hlt]; exact ⟨rfl, rfl⟩
            · have hj := of_decide_eq_false hj
              have eL : isL ws l (.tup [.str w, .int h, .int o]) = decide (w ∈ ws) := by
                show (decide (0 <= h) && (decide (0 <= o) && (if w = "join" then decide (h < o) && ((lkI h l).isNone && (lkI o l).isNone) else decide (w ∈ ws)))) = _
                rw [if_neg hj, decide_eq_true h0, decide_eq_true o0, Bool.true_and, Bool.true_and]
              rw [eL]
              refine w_nx ?_
              refine w_rt (w_op (w_hval (w_var rfl (w_hval (w_var rfl ?_)))))
              exact x3 rfl rfl (in_ws hlw hw) ⟨rfl, rfl⟩
          · have nc : isNum c = false := by simpa using nc
            rw [nc]
            refine ⟨fun _ => ?_, (fun z => nomatch z)⟩
            bv_omega
            refine ⟨?_, rfl⟩
            congr 1
            cases c with
            | int o =>
              have : decide (0 <= o) = false := nc
              cases b with
              | int h =>
                show false = (decide (0 <= h) && (decide (0 <= o) && _))
                rw [this, Bool.false_and, Bool.and_false]
              | _ => rfl
            | _ => cases b <;> rfl
        · have nb : isNum b = false := by simpa using nb
          rw [nb]
          refine ⟨fun _ => ?_, (fun z => nomatch z)⟩
          refine ⟨fun _ => ?_, (fun z => nomatch z)⟩
          bv_omega
          refine ⟨?_, rfl⟩
          congr 1
          cases b with
          | int h =>
            have : decide (0 <= h) = false := nb
            cases c with
            | int o =>
              show false = (decide (0 <= h) && _)
              rw [this, Bool.false_and]
            | _ => rfl
          | _ => rfl
      · refine w_bnot (w_btru (w_hval (w_un (w_hval (w_op (w_hval (w_var rfl (w_hval (w_c ?_)))))))))
        refine x3 rfl rfl rfl ?_
        refine ⟨_, _, hlk _, hs, ?_⟩
        refine ⟨_, _, rfl, rfl, fun _ => ?_, (fun z => nomatch z)⟩
        bv_omega
        refine ⟨?_, rfl⟩
        congr 1
        cases a with
        | str w => cases hs
        | _ => rfl
    · rw [ne3 hl]
      refine ⟨fun _ => ?_, (fun z => nomatch z)⟩
      refine ⟨fun _ => ?_, (fun z => nomatch z)⟩
      bv_omega
      refine ⟨?_, rfl⟩
      congr 1
      match ds, hl with
      | [], _ => rfl
      | [a], _ => cases a <;> rfl
      | [a, b], _ => cases a <;> first | rfl | (cases b <;> rfl)
      | a :: b :: c :: e :: r, _ => cases a <;> first | rfl | (cases b <;> first | rfl | (cases c <;> rfl))
  | _ =>
    bv_omega
    refine ⟨fun _ => ?_, (fun z => nomatch z)⟩
    refine ⟨fun _ => ?_, (fun z => nomatch z)⟩
    bv_omega
    exact ⟨rfl, rfl⟩
end Lk77
namespace Lk77
open PySem PySem.Spec L2 MI
set_option hygiene false
local macro_rules | `(tactic| bv_omega) => `(tactic| (repeat (first | refine w_seq ?_ | refine w_set ?_ | refine w_rt ?_ | refine w_drop ?_ | refine w_frz ?_ | refine w_multi ?_ | refine w_mcons ?_ | refine w_mnil ?_ | refine w_asg ?_ | refine w_hval ?_ | refine w_var rfl ?_ | refine w_c ?_ | refine w_hslot rfl ?_ | refine w_acons ?_ | refine w_anil ?_ | refine w_op ?_ | refine w_un ?_ | refine w_fn ?_ | refine w_tup ?_ | refine w_lst ?_ | refine w_avals ?_ | refine w_alooks ?_ | refine w_callK ?_ | refine w_cut ?_ | refine w_pint ?_ | refine w_pno ?_ | refine w_bof ?_ | refine w_nx ?_ | refine w_ret ?_ | refine w_fld ?_ | refine w_meth ?_ | refine w_make ?_ | refine w_fldS ?_ | refine w_share ?_ | refine w_shareD ?_ | refine w_putD ?_ | refine w_mutO ?_ | refine w_asgL ?_ | refine w_bnot ?_ | refine w_btru ?_ | refine xT lv0 (fitk (Nat.le_of_ble_eq_true rfl)) ?_ | refine ⟨_, lv0, ?_⟩ | refine xT lv1 (fitk (Nat.le_of_ble_eq_true rfl)) ?_ | refine ⟨_, lv1, ?_⟩ | refine xT lv2 (fitk (Nat.le_of_ble_eq_true rfl)) ?_ | refine ⟨_, lv2, ?_⟩ | refine xT lv3 (fitk (Nat.le_of_ble_eq_true rfl)) ?_ | refine ⟨_, lv3, ?_⟩ | refine xT lv4 (fitk (Nat.le_of_ble_eq_true rfl)) ?_ | refine ⟨_, lv4, ?_⟩ | refine xT lv5 (fitk (Nat.le_of_ble_eq_true rfl)) ?_ | refine ⟨_, lv5, ?_⟩ | refine xT rfl (fitk (Nat.le_of_ble_eq_true rfl)) ?_ | refine x3 rfl rfl rfl ?_ | refine x2 rfl rfl ?_ | refine x2L rfl rfl ?_ | refine Exists.intro _ (Exists.intro _ (And.intro rfl (And.intro rfl ?_))) | refine Exists.intro _ (And.intro rfl ?_))))
local macro_rules | `(tactic| ac_rfl) => `(tactic| (repeat (first | refine w_seq ?_ | refine w_set ?_ | refine w_rt ?_ | refine w_drop ?_ | refine w_frz ?_ | refine w_multi ?_ | refine w_mcons ?_ | refine w_mnil ?_ | refine w_asg ?_ | refine w_hval ?_ | refine w_var rfl ?_ | refine w_c ?_ | refine w_hslot rfl ?_ | refine w_acons ?_ | refine w_anil ?_ | refine w_op ?_ | refine w_un ?_ | refine w_fn ?_ | refine w_tup ?_ | refine w_lst ?_ | refine w_avals ?_ | refine w_alooks ?_ | refine w_callK ?_ | refine w_cut ?_ | refine w_pint ?_ | refine w_pno ?_ | refine w_bof ?_ | refine w_nx ?_ | refine w_ret ?_ | refine w_fld ?_ | refine w_meth ?_ | refine w_make ?_ | refine w_fldS ?_ | refine w_share ?_ | refine w_shareD ?_ | refine w_putD ?_ | refine w_mutO ?_ | refine w_asgL ?_ | refine w_bnot ?_ | refine w_btru ?_ | refine xT lv0 (fitk (Nat.le_of_ble_eq_true rfl)) ?_ | refine ⟨_, lv0, ?_⟩ | refine xT lv1 (fitk (Nat.le_of_ble_eq_true rfl)) ?_ | refine ⟨_, lv1, ?_⟩ | refine xT lv2 (fitk (Nat.le_of_ble_eq_true rfl)) ?_ | refine ⟨_, lv2, ?_⟩ | refine xT lv3 (fitk (Nat.le_of_ble_eq_true rfl)) ?_ | refine ⟨_, lv3, ?_⟩ | refine xT lv4 (fitk (Nat.le_of_ble_eq_true rfl)) ?_ | refine ⟨_, lv4, ?_⟩ | refine xT lv5 (fitk (Nat.le_of_ble_eq_true rfl)) ?_ | refine ⟨_, lv5, ?_⟩ | refine xT rfl (fitk (Nat.le_of_ble_eq_true rfl)) ?_ | refine x3 rfl rfl rfl ?_ | refine x2 rfl rfl ?_ | refine Exists.intro _ (And.intro rfl ?_))))
theorem fs_take {st : Sto} {n N : Nat} {many : Int} {P : D -> Sto -> Prop} (h : HF st n N) (hN : N <= 1000000) (h0 : 0 < many) (h1 : many <= 1000000000) (k : ∀ r st', 0 <= r -> r < many -> HF st' n (N + 1) -> P (.int r) st') : FS fn__law_take [.obj n, .int many] st P := by
  have p1 : (2 : Nat) ^ 40 = 1099511627776 := by decide
  have p2 : (2 : Int) ^ 40 = 1099511627776 := by decide
  obtain ⟨r, st', e, a, b, c⟩ := takeF h (by omega) h0 (by omega)
  exact ⟨_, _, e, k r st' a b c⟩
theorem fs_pickL {st : Sto} {n N : Nat} {ds : List D} {P : D -> Sto -> Prop} (h : HF st n N) (hN : N <= 1000000) (h0 : ds ≠ []) (h1 : ds.length <= 1000) (k : ∀ d st', d ∈ ds -> HF st' n (N + 1) -> P d st') : FS fn__law_pick [.obj n, .lst ds] st P := by
  have p1 : (2 : Nat) ^ 40 = 1099511627776 := by decide
  obtain ⟨r, st', e, a, b⟩ := pickFL h (by omega) (List.length_pos_iff.mpr h0) h1
  exact ⟨_, _, e, k r st' a b⟩
theorem fs_pickT {st : Sto} {n N : Nat} {ds : List D} {P : D -> Sto -> Prop} (h : HF st n N) (hN : N <= 1000000) (h0 : ds ≠ []) (h1 : ds.length <= 1000) (k : ∀ d st', d ∈ ds -> HF st' n (N + 1) -> P d st') : FS fn__law_pick [.obj n, .tup ds] st P := by
  have p1 : (2 : Nat) ^ 40 = 1099511627776 := by decide
  obtain ⟨r, st', e, a, b⟩ := pickFT h (by omega) (List.length_pos_iff.mpr h0) h1
  exact ⟨_, _, e, k r st' a b⟩
theorem map_pt {α β : Type} {l : List α} {f g : α -> β} (h : l.map f = l.map g) : ∀ a ∈ l, f a = g a := List.map_eq_map_iff.mp h
abbrev LT : Str := "abcdefghijklmnopqrstuvwxyz"
theorem letter0 : (List.range 26).map (fun (k : Nat) => gIxA (.str LT) (.int (k : Nat))) = (List.range 26).map (fun k => some (.str (SX.S [97 + k]))) := by kernel_rfl
theorem letter {i : Int} (h0 : 0 <= i) (h1 : i < 26) : gIxA (.str LT) (.int i) = some (.str (SX.S [97 + i.toNat])) := by
  have := map_pt letter0 i.toNat (List.mem_range.mpr (by omega))
  rwa [Int.toNat_of_nonneg h0] at this
theorem fs_pickS {st : Sto} {n N : Nat} {P : D -> Sto -> Prop} (h : HF st n N) (hN : N <= 1000000) (k : ∀ (c : Nat) st', 97 <= c -> c <= 122 -> HF st' n (N + 1) -> P (.str (SX.S [c])) st') : FS fn__law_pick [.obj n, .str LT] st P := by
  refine fs_run ?_
  unfold d__law_pick
  bv_omega
  refine fs_take (many := 26) h hN (by decide) (by decide) fun r st' r0 r1 h' => ?_
  refine x3 rfl rfl (letter r0 r1) (k _ _ (by omega) (by omega) h')
theorem low_S {l : List Nat} : lowS (SX.S l) = true ↔ ∀ c ∈ l, 32 <= c /\ c <= 126 /\ c ≠ 39 /\ c ≠ 92 := by
  unfold lowS
  rw [List.all_eq_true]
  simp
theorem joinL_nil : ∀ (ys : List (List Nat)), TL.joinL [] ys = ys.flatten
  | [] => rfl
  | [p] => by simp [TL.joinL]
  | p :: q :: r => by
    rw [TL.joinL, joinL_nil (q :: r)]
    simp
theorem strs_of_S : ∀ (ls : List (List Nat)), MI.strs? (ls.map fun l => D.str (SX.S l)) = some (ls.map SX.S)
  | [] => rfl
  | l :: ls => by
    rw [List.map_cons, MI.strs?, strs_of_S ls]
    rfl
theorem sum_ones : ∀ (ls : List (List Nat)), (∀ l ∈ ls, l.length = 1) -> (ls.map List.length).sum = ls.length
  | [], _ => rfl
  | x :: r, h => by
    rw [List.map_cons, List.sum_cons, sum_ones r fun l hl => h l (List.mem_cons_of_mem _ hl), h x (List.mem_cons_self ..), List.length_cons]
    omega
theorem jn_ok {ls : List (List Nat)} (h : ∀ l ∈ ls, l.length = 1) (hl : ls.length <= 10) : gJoin (.str "") (.lst (ls.map fun l => D.str (SX.S l))) = some (.str (SX.S ls.flatten)) := by
  have e : ("" : Str) = SX.S [] := by kernel_rfl
  unfold gJoin
  simp only [strs_of_S]
  rw [e, SX.lens, SX.join_S, joinL_nil, if_pos]
  rw [sum_ones ls h, List.length_map, SX.S_len]
  simp
  omega
theorem addS_ok {a b : List Nat} (h : a.length + b.length <= 1000) : gAdd (.str (SX.S a)) (.str (SX.S b)) = some (.str (SX.S (a ++ b))) := by
  show (if fitL ((SX.S a).length + (SX.S b).length) then some (D.str (SX.S a ++ SX.S b)) else none) = _
  rw [if_pos (fitk (by rw [SX.S_len, SX.S_len]; omega)), SX.S_cat]
structure Wd (ws : List Str) : Prop where
  nd : ws.Nodup
  low : ∀ x ∈ ws, lowS x = true
  nj : ∀ x ∈ ws, x ≠ "join"
  sz : ∀ x ∈ ws, x.cps.size <= 8
theorem ne_join {l : List Nat} (h : l.length ≠ 4) : SX.S l ≠ ("join" : Str) := by
  have e : ("join" : Str) = SX.S [106, 111, 105, 110] := by kernel_rfl
  rw [e]
  intro z
  exact h (by rw [SX.S_inj z]; rfl)
theorem range_at {k : Nat} {done rest : List D} {d : D} (h : done ++ d :: rest = rangeD 0 k) : done.length < k /\ d = .int (done.length : Nat) := by
  have h1 := congrArg List.length h
  rw [rangeD_len, List.length_append, List.length_cons] at h1
  have h2 : (rangeD 0 k)[done.length]? = some d := by rw [<- h]; simp
  rw [range_D0, List.getElem?_map, List.getElem?_range (by omega)] at h2
  exact ⟨by omega, by simpa using h2.symm⟩
theorem words_ok {st : Sto} {n N : Nat} {many : Int} {P : D -> Sto -> Prop} (h : HF st n N) (hN : N <= 100000) (h0 : 0 < many) (h1 : many <= 3)
    (k : ∀ (ws : List Str) st', Wd ws -> (∀ x ∈ ws, ∃ p : List Nat, x = SX.S p /\ 0 < p.length /\ p.length < 9 /\ ∀ c ∈ p, 97 <= c /\ c <= 122) -> (ws.length : Int) = many -> HF st' n (N + 12) -> P (.tup (ws.map .str)) st') : FS fn__law_words [.obj n, .int many] st P := by
  refine fs_run ?_
  unfold d__law_words
  bv_omega
  refine w_join ?_
  bv_omega
  refine w_lc (fun ds done ys m => ∃ (ls : List (List Nat)) (s4 : Option D) (st : Sto), m = ⟨[some (.obj n), some (.int many), some (.str LT), none, s4, none, none], st⟩ /\ ys = ls.map (fun l => D.str (SX.S l)) /\ ls.length = done.length /\
    (∀ l ∈ ls, l.length = 1 /\ ∀ c ∈ l, 97 <= c /\ c <= 122) /\ HF st n (N + 1 + done.length)) ?_
  refine w_irange1 ?_
  bv_omega
  refine fs_pickL (ds := [.int 0, .int 0, .int 1, .int 2, .int 7]) h (by omega) (by simp) (by simp) fun d st1 hd h1 => ?_
  obtain ⟨j, rfl, hj⟩ : ∃ j : Nat, d = .int (j : Nat) /\ (j = 0 \/ j = 1 \/ j = 2 \/ j = 7) := by
    simp only [List.mem_cons, List.not_mem_nil, or_false] at hd
    rcases hd with rfl | rfl | rfl | rfl | rfl
    · exact ⟨0, rfl, by omega⟩
    · exact ⟨0, rfl, by omega⟩
    · exact ⟨1, rfl, by omega⟩
    · exact ⟨2, rfl, by omega⟩
    · exact ⟨7, rfl, by omega⟩
  bv_omega
  refine ⟨small_ok (by omega) (by omega), ⟨[], none, st1, rfl, rfl, rfl, by simp, h1⟩, ?_, ?_⟩
  · rintro done d rest ys m2 he ⟨ls, s4, st2, rfl, rfl, hl, hc, hb⟩
    obtain ⟨hlt, rfl⟩ := range_at he
    refine ⟨_, rfl, w_ret ⟨(fun z => nomatch z), fun _ => ?_⟩⟩
    bv_omega
    refine fs_pickS hb (by omega) fun c st3 c0 c1 h3 => ?_
    refine ⟨ls ++ [[c]], _, st3, rfl, by simp, by simp [hl], fun l hl => ?_, by rw [List.length_append]; exact h3⟩
    rcases List.mem_append.mp hl with hl | hl
    · exact hc l hl
    · rw [List.mem_singleton.mp hl]
      exact ⟨rfl, fun x hx => by rw [List.mem_singleton.mp hx]; exact ⟨c0, c1⟩⟩
  rintro ys m2 ⟨ls, s4, st2, rfl, rfl, hl, hc, hb⟩
  rw [rangeD_len] at hl hb
  have hj2 : (j : Int).toNat = j := by omega
  rw [hj2] at hl hb
  refine ⟨fitk (by rw [List.length_map]; omega), _, jn_ok (fun l hl => (hc l hl).1) (by omega), ?_⟩
  have hsl : ls.flatten.length = j := by rw [List.length_flatten, sum_ones ls fun l hl => (hc l hl).1, hl]
  have hsc : ∀ c ∈ ls.flatten, 97 <= c /\ c <= 122 := fun c hx => by
    obtain ⟨l, h2, h3⟩ := List.mem_flatten.mp hx
    exact (hc l h2).2 c h3
  generalize ls.flatten = stem at hsl hsc
  show W _ ⟨[some (.obj n), some (.int many), some (.str LT), some (.str (SX.S stem)), none, none, none], st2⟩ _
  bv_omega
  refine fs_take (many := 26) hb (by omega) (by decide) (by decide) fun f st3 f0 f1 h3 => ?_
  bv_omega
  refine fs_pickL (ds := [.int 1, .int 3, .int 5, .int 25]) h3 (by omega) (by simp) (by simp) fun d st4 hd h4 => ?_
  obtain ⟨s, rfl, hs⟩ : ∃ s : Int, d = .int s /\ (s = 1 \/ s = 3 \/ s = 5 \/ s = 25) := by
    simp only [List.mem_cons, List.not_mem_nil, or_false] at hd
    rcases hd with rfl | rfl | rfl | rfl
    · exact ⟨1, rfl, by omega⟩
    · exact ⟨3, rfl, by omega⟩
    · exact ⟨5, rfl, by omega⟩
    · exact ⟨25, rfl, by omega⟩
  bv_omega
  refine ⟨rfl, ?_⟩
  show W _ ⟨[some (.obj n), some (.int many), some (.str LT), some (.str (SX.S stem)), none, some (.int f), some (.int s)], st4⟩ _
  bv_omega
  let g : Nat -> Str := fun k => SX.S (stem ++ [97 + ((f + s * (k : Int)) % 26).toNat])
  refine w_lc (fun ds done ys m => ∃ s4, m = ⟨[some (.obj n), some (.int many), some (.str LT), some (.str (SX.S stem)), s4, some (.int f), some (.int s)], st4⟩ /\ ys = ((List.range done.length).map g).map .str) ?_
  refine w_irange1 ?_
  bv_omega
  refine ⟨small_ok (by omega) (by omega), ⟨none, rfl, rfl⟩, ?_, ?_⟩
  · rintro done d rest ys m2 he ⟨s4, rfl, rfl⟩
    obtain ⟨hlt, rfl⟩ := range_at he
    refine ⟨_, rfl, w_ret ⟨(fun z => nomatch z), fun _ => ?_⟩⟩
    bv_omega
    have big : (1000 : Int) < 2 ^ 200 := p200
    refine x3 rfl rfl (gMul_ok (by rcases hs with rfl | rfl | rfl | rfl <;> omega) (by rcases hs with rfl | rfl | rfl | rfl <;> omega) (by omega) (by omega)) ?_
    bv_omega
    have b0 : 0 <= (f + s * ((done.length : Nat) : Int)) % 26 := Int.emod_nonneg _ (by decide)
    have b1 : (f + s * ((done.length : Nat) : Int)) % 26 < 26 := Int.emod_lt_of_pos _ (by decide)
    refine x3 rfl rfl (letter b0 b1) ?_
    bv_omega
    refine x3 rfl rfl (addS_ok (by rw [List.length_singleton]; omega)) ?_
    refine ⟨_, rfl, ?_⟩
    rw [List.length_append, List.length_singleton, List.range_succ, List.map_append, List.map_append]
    rfl
  rintro ys m2 ⟨s4, rfl, rfl⟩
  rw [rangeD_len]
  refine ⟨fitk (by simp; omega), ?_⟩
  obtain ⟨ws, e, hp⟩ := sorted_strs (l := (List.range many.toNat).map g)
  bv_omega
  refine x2L rfl e ?_
  bv_omega
  refine k ws _ ⟨?_, ?_, ?_, ?_⟩ (fun x hx => by
    obtain ⟨i, _, rfl⟩ := List.mem_map.mp (hp.mem_iff.mp hx)
    refine ⟨_, rfl, by simp, by rw [List.length_append, List.length_singleton]; omega, fun c hc2 => ?_⟩
    rcases List.mem_append.mp hc2 with hc2 | hc2
    · exact hsc c hc2
    · rw [List.mem_singleton.mp hc2]
      have b0 : 0 <= (f + s * (i : Int)) % 26 := Int.emod_nonneg _ (by decide)
      have b1 : (f + s * (i : Int)) % 26 < 26 := Int.emod_lt_of_pos _ (by decide)
      omega) ?_ (h4.mono (by omega))
  · rw [hp.nodup_iff]
    refine List.pairwise_map.mpr (List.Pairwise.imp_of_mem ?_ List.pairwise_lt_range)
    intro a b ha hb2 hab
    rw [List.mem_range] at ha hb2
    intro z
    have z := SX.S_inj z
    rw [List.append_right_inj] at z
    simp only [List.cons.injEq, and_true] at z
    rcases hs with rfl | rfl | rfl | rfl <;> omega
  · intro x hx
    obtain ⟨i, _, rfl⟩ := List.mem_map.mp (hp.mem_iff.mp hx)
    refine low_S.mpr fun c hc2 => ?_
    rcases List.mem_append.mp hc2 with hc2 | hc2
    · have := hsc c hc2
      omega
    · rw [List.mem_singleton.mp hc2]
      omega
  · intro x hx
    obtain ⟨i, _, rfl⟩ := List.mem_map.mp (hp.mem_iff.mp hx)
    exact ne_join (by rw [List.length_append, List.length_singleton]; omega)
  · intro x hx
    obtain ⟨i, _, rfl⟩ := List.mem_map.mp (hp.mem_iff.mp hx)
    simp [g]
    omega
  · rw [hp.length_eq, List.length_map, List.length_range]
    omega
theorem map_at {α : Type} {enc : α -> D} {xs : List α} {done rest : List D} {d : D} (h : done ++ d :: rest = xs.map enc) : ∃ x, xs[done.length]? = some x /\ d = enc x := by
  have h2 : (xs.map enc)[done.length]? = some d := by rw [<- h]; simp
  rw [List.getElem?_map, Option.map_eq_some_iff] at h2
  obtain ⟨x, hx, e⟩ := h2
  exact ⟨x, hx, e.symm⟩
theorem enum_at {α : Type} {enc : α -> D} {xs : List α} {done rest : List D} {d : D} (h : done ++ d :: rest = enumD 0 (xs.map enc)) : ∃ x, xs[done.length]? = some x /\ d = .tup [.int (done.length : Nat), enc x] := by
  have e : enumD 0 (xs.map enc) = (zi 0 xs).map fun p => .tup [.int (p.1 : Nat), enc p.2] := enum_zi
  rw [e] at h
  have h2 : ((zi 0 xs).map fun p => D.tup [.int (p.1 : Nat), enc p.2])[done.length]? = some d := by rw [<- h]; simp
  rw [List.getElem?_map, Option.map_eq_some_iff] at h2
  obtain ⟨p, hp, rfl⟩ := h2
  have hz : ∀ (xs : List α) (k i : Nat) (p : Nat × α), (zi k xs)[i]? = some p -> p.1 = k + i /\ xs[i]? = some p.2 := by
    intro xs
    induction xs with
    | nil => intro k i p h; simp [zi] at h
    | cons x r ih =>
      intro k i p h
      cases i with
      | zero => simp [zi] at h; subst h; simp
      | succ i =>
        simp only [zi, List.getElem?_cons_succ] at h
        obtain ⟨h1, h2⟩ := ih _ _ _ h
        exact ⟨by omega, by simpa using h2⟩
  obtain ⟨h1, h2⟩ := hz xs 0 _ p hp
  refine ⟨p.2, h2, ?_⟩
  rw [h1, Nat.zero_add]
theorem enum_len {α : Type} {enc : α -> D} {xs : List α} : (enumD 0 (xs.map enc)).length = xs.length := by
  have e : enumD 0 (xs.map enc) = (zi 0 xs).map fun p => .tup [.int (p.1 : Nat), enc p.2] := enum_zi
  rw [e, List.length_map, zi_len]
theorem cut_mem {ds : List D} {lo hi : Option Int} {d : D} (h : d ∈ cutD ds lo hi) : d ∈ ds := by
  unfold cutD at h
  exact List.mem_of_mem_drop (List.mem_of_mem_take h)
theorem cut_len {ds : List D} {lo hi : Option Int} : (cutD ds lo hi).length <= ds.length := by
  unfold cutD
  rw [List.length_take, List.length_drop]
  omega
end Lk77
namespace Lk77
open PySem PySem.Spec L2 MI
set_option hygiene false
local macro_rules | `(tactic| bv_omega) => `(tactic| (repeat (first | refine w_seq ?_ | refine w_set ?_ | refine w_rt ?_ | refine w_drop ?_ | refine w_frz ?_ | refine w_multi ?_ | refine w_mcons ?_ | refine w_mnil ?_ | refine w_asg ?_ | refine w_hval ?_ | refine w_var rfl ?_ | refine w_c ?_ | refine w_hslot rfl ?_ | refine w_acons ?_ | refine w_anil ?_ | refine w_op ?_ | refine w_un ?_ | refine w_fn ?_ | refine w_tup ?_ | refine w_lst ?_ | refine w_avals ?_ | refine w_alooks ?_ | refine w_callK ?_ | refine w_cut ?_ | refine w_pint ?_ | refine w_pno ?_ | refine w_bof ?_ | refine w_nx ?_ | refine w_ret ?_ | refine w_fld ?_ | refine w_meth ?_ | refine w_make ?_ | refine w_fldS ?_ | refine w_share ?_ | refine w_shareD ?_ | refine w_putD ?_ | refine w_mutO ?_ | refine w_asgL ?_ | refine w_bnot ?_ | refine w_btru ?_ | refine xT lv0 (fitk (Nat.le_of_ble_eq_true rfl)) ?_ | refine ⟨_, lv0, ?_⟩ | refine xT lv1 (fitk (Nat.le_of_ble_eq_true rfl)) ?_ | refine ⟨_, lv1, ?_⟩ | refine xT lv2 (fitk (Nat.le_of_ble_eq_true rfl)) ?_ | refine ⟨_, lv2, ?_⟩ | refine xT lv3 (fitk (Nat.le_of_ble_eq_true rfl)) ?_ | refine ⟨_, lv3, ?_⟩ | refine xT lv4 (fitk (Nat.le_of_ble_eq_true rfl)) ?_ | refine ⟨_, lv4, ?_⟩ | refine xT lv5 (fitk (Nat.le_of_ble_eq_true rfl)) ?_ | refine ⟨_, lv5, ?_⟩ | refine xT rfl (fitk (Nat.le_of_ble_eq_true rfl)) ?_ | refine x3 rfl rfl rfl ?_ | refine x2 rfl rfl ?_ | refine x2L rfl rfl ?_ | refine Exists.intro _ (Exists.intro _ (And.intro rfl (And.intro rfl ?_))) | refine Exists.intro _ (And.intro rfl ?_))))
local macro_rules | `(tactic| ac_rfl) => `(tactic| (repeat (first | refine w_seq ?_ | refine w_set ?_ | refine w_rt ?_ | refine w_drop ?_ | refine w_frz ?_ | refine w_multi ?_ | refine w_mcons ?_ | refine w_mnil ?_ | refine w_asg ?_ | refine w_hval ?_ | refine w_var rfl ?_ | refine w_c ?_ | refine w_hslot rfl ?_ | refine w_acons ?_ | refine w_anil ?_ | refine w_op ?_ | refine w_un ?_ | refine w_fn ?_ | refine w_tup ?_ | refine w_lst ?_ | refine w_avals ?_ | refine w_alooks ?_ | refine w_callK ?_ | refine w_cut ?_ | refine w_pint ?_ | refine w_pno ?_ | refine w_bof ?_ | refine w_nx ?_ | refine w_ret ?_ | refine w_fld ?_ | refine w_meth ?_ | refine w_make ?_ | refine w_fldS ?_ | refine w_share ?_ | refine w_shareD ?_ | refine w_putD ?_ | refine w_mutO ?_ | refine w_asgL ?_ | refine w_bnot ?_ | refine w_btru ?_ | refine xT lv0 (fitk (Nat.le_of_ble_eq_true rfl)) ?_ | refine ⟨_, lv0, ?_⟩ | refine xT lv1 (fitk (Nat.le_of_ble_eq_true rfl)) ?_ | refine ⟨_, lv1, ?_⟩ | refine xT lv2 (fitk (Nat.le_of_ble_eq_true rfl)) ?_ | refine ⟨_, lv2, ?_⟩ | refine xT lv3 (fitk (Nat.le_of_ble_eq_true rfl)) ?_ | refine ⟨_, lv3, ?_⟩ | refine xT lv4 (fitk (Nat.le_of_ble_eq_true rfl)) ?_ | refine ⟨_, lv4, ?_⟩ | refine xT lv5 (fitk (Nat.le_of_ble_eq_true rfl)) ?_ | refine ⟨_, lv5, ?_⟩ | refine xT rfl (fitk (Nat.le_of_ble_eq_true rfl)) ?_ | refine x3 rfl rfl rfl ?_ | refine x2 rfl rfl ?_ | refine Exists.intro _ (And.intro rfl ?_))))
def next (l : Ld) : D -> Ld
  | .tup [.str w, .int h, .int o] => if w = "join" then l ++ [(o, h)] else l
  | _ => l
def isHs (ws : List Str) : Ld -> List D -> Bool
  | _, [] => true
  | l, d :: r => isL ws l d && isHs ws (next l d) r
theorem isL_form {ws : List Str} {l : Ld} {d : D} (h : isL ws l d = true) : ∃ w x y, d = .tup [.str w, .int x, .int y] /\ 0 <= x /\ 0 <= y /\ (w = "join" -> x < y /\ lkI x l = none /\ lkI y l = none) /\ (w ≠ "join" -> w ∈ ws) := by
  unfold isL at h
  split at h
  · next w x y =>
    rw [Bool.and_eq_true, Bool.and_eq_true, decide_eq_true_eq, decide_eq_true_eq] at h
    obtain ⟨h1, h2, h3⟩ := h
    refine ⟨w, x, y, rfl, h1, h2, fun hj => ?_, fun hj => ?_⟩
    · rw [if_pos hj, Bool.and_eq_true, Bool.and_eq_true, decide_eq_true_eq] at h3
      exact ⟨h3.1, Option.isNone_iff_eq_none.mp h3.2.1, Option.isNone_iff_eq_none.mp h3.2.2⟩
    · rw [if_neg hj] at h3
      exact of_decide_eq_true h3
  · cases h
theorem ints_map : ∀ (ns : List Int), ints? (ns.map .int) = some ns
  | [] => rfl
  | x :: ns => by
    show ints? (D.int x :: ns.map .int) = _
    rw [ints?, ints_map ns]
    rfl
def Rts (l : Ld) (ns : List Int) : Prop := ∀ x ∈ ns, lkI x l = none /\ 0 <= x /\ x < 1000000000
theorem okI_l {w : Str} {x y : Int} (h : lowS w = true) : okI (.tup [.str w, .int x, .int y]) = true := by
  show ([D.str w, .int x, .int y].all elI) = true
  simp [elI, h]
theorem isL_word {ws : List Str} {l : Ld} {w : Str} {x y : Int} (hw : w ∈ ws) (hj : w ≠ "join") (x0 : 0 <= x) (y0 : 0 <= y) : isL ws l (.tup [.str w, .int x, .int y]) = true := by
  show (decide (0 <= x) && (decide (0 <= y) && (if w = "join" then decide (x < y) && ((lkI x l).isNone && (lkI y l).isNone) else decide (w ∈ ws)))) = true
  rw [if_neg hj, decide_eq_true x0, decide_eq_true y0, decide_eq_true hw]
  rfl
theorem isL_join {ws : List Str} {l : Ld} {x y : Int} (x0 : 0 <= x) (hxy : x < y) (hx : lkI x l = none) (hy : lkI y l = none) : isL ws l (.tup [.str "join", .int x, .int y]) = true := by
  show (decide (0 <= x) && (decide (0 <= y) && (if ("join" : Str) = "join" then decide (x < y) && ((lkI x l).isNone && (lkI y l).isNone) else decide (("join" : Str) ∈ ws)))) = true
  rw [if_pos rfl, decide_eq_true x0, decide_eq_true (by omega : 0 <= y), decide_eq_true hxy, hx, hy]
  rfl
theorem p9 : (1000000000 : Int) < 2 ^ 200 := by decide
theorem kd_q {c : Int × Int} (h1 : 0 <= c.1 /\ c.1 < 1000000000) (h2 : 0 <= c.2 /\ c.2 < 1000000000) : Kd 1 (qD c) := Kd.tup fun d hd => by
  have := p9
  simp only [List.mem_cons, List.not_mem_nil, or_false] at hd
  rcases hd with rfl | rfl
  · exact Kd.int (by omega) (by omega)
  · exact Kd.int (by omega) (by omega)
abbrev mL (n : Nat) (ws : List Str) (kn : List (Int × Int)) (l : Ld) (a4 a5 a6 a7 a8 a9 a10 : Option D) (st : Sto) : MS := ⟨[some (.obj n), some (wsD ws), some (.lst (kn.map qD)), some (ldD l), a4, a5, a6, a7, a8, a9, a10], st⟩
theorem sort2b (p1 p2 : Int) : ∃ c1 c2, isortD leD [.int p1, .int p2] = [.int c1, .int c2] /\ ((c1 = p1 /\ c2 = p2) \/ (c1 = p2 /\ c2 = p1)) := by
  have := isortD_int (l := [p1, p2])
  unfold srtI at this
  simp only [List.foldr, insI] at this
  split at this
  · exact ⟨p1, p2, this, .inl ⟨rfl, rfl⟩⟩
  · exact ⟨p2, p1, this, .inr ⟨rfl, rfl⟩⟩
theorem letter_ok {st : Sto} {n N : Nat} {ws : List Str} {kn : List (Int × Int)} {l : Ld} {P : D -> Sto -> Prop} (h : HF st n N) (hN : N <= 100000) (hws : Wd ws) (w0 : ws ≠ []) (w1 : ws.length <= 3) (hk : ∀ q ∈ kn, 0 <= q.1 /\ 0 <= q.2 /\ q.1 < 1000000000 /\ q.2 < 1000000000) (hkl : kn.length <= 300) (g : GL l) (hlb : ∀ q ∈ l, q.1 < 1000000000) (hl : l.length <= 300)
    (k : ∀ w x y st', x < 1000000000 -> y < 1000000000 -> isL ws l (.tup [.str w, .int x, .int y]) = true -> lowS w = true -> HF st' n (N + 10) -> P (.tup [.str w, .int x, .int y]) st') : FS fn__law_letter [.obj n, wsD ws, .lst (kn.map qD), ldD l] st P := by
  refine fs_run ?_
  unfold d__law_letter
  refine w_seq (w_set ?_)
  refine w_un (w_hval ?_)
  show W _ (mL n ws kn l none none none none none none none st) _
  refine w_lc (fun _ done ys m => ∃ (ns : List Int) (a5 : Option D), m = mL n ws kn l none a5 none none none none none st /\ ys = ns.map .int /\ Rts l ns /\ ns.length = done.length) ?_
  refine w_iseq ?_
  bv_omega
  have etk : kn.take (kn.map qD).length = kn := by rw [List.length_map, List.take_length]
  refine ⟨_, .inl rfl, ⟨[], none, rfl, rfl, (fun x hx => nomatch hx), rfl⟩, ?_, ?_⟩
  · rintro done d rest ys m2 he ⟨ns, a5, rfl, rfl, hr, hl5⟩
    obtain ⟨q, hq, rfl⟩ := map_at he
    refine ⟨_, rfl, w_ret ⟨(fun z => nomatch z), fun _ => ?_⟩⟩
    obtain ⟨y, hy⟩ := cal_all g q.1
    bv_omega
    refine (lawcal_ok g hy).mono ?_
    rintro d st' ⟨rfl, rfl⟩
    refine ⟨ns ++ [y], _, rfl, by simp, fun z hz => ?_, by simp [hl5]⟩
    rcases List.mem_append.mp hz with hz | hz
    · exact hr z hz
    · rw [List.mem_singleton.mp hz]
      have hx2 := hk q (List.mem_of_getElem? hq)
      have := hy.le g
      exact ⟨hy.root, hy.nn g hx2.1, by omega⟩
  rintro ys m2 ⟨ns, a5, rfl, rfl, hr, hl5⟩
  rw [List.length_map] at hl5
  refine ⟨fitk (by rw [List.length_map]; omega), ?_⟩
  have es : gSortSetB (.lst (ns.map .int)) = some (.lst ((srtU ns).map .int)) := by
    show (match ints? (ns.map .int) with | some ns => if ns.length < 1000 then some (D.lst ((srtU ns).map .int)) else none | none => none) = _
    rw [ints_map]
    exact if_pos (by omega)
  refine x2 rfl es ?_
  have hh : Rts l (srtU ns) := fun x hx => hr x (srtU_mem.mp hx)
  have hhl : (srtU ns).length <= 600 := Nat.le_trans (srtU_len ns) (by omega)
  generalize srtU ns = hs at hh hhl
  show W _ (mL n ws kn l (some (.lst (hs.map .int))) none none none none none none st) _
  bv_omega
  refine fs_take (many := 8) h (by omega) (by decide) (by decide) fun way st1 y0 y1 h1 => ?_
  bv_omega
  refine fs_take (many := 100000000) h1 (by omega) (by decide) (by decide) fun big st2 b0 b1 h2 => ?_
  bv_omega
  refine fs_pickL (ds := [.int 0, .int 1, .int 2, .int 3, .int 7, .int big]) h2 (by omega) (by simp) (by simp) fun d st3 hd h3 => ?_
  obtain ⟨f, rfl, f0, f1⟩ : ∃ f : Int, d = .int f /\ 0 <= f /\ f < 100000000 := by
    simp only [List.mem_cons, List.not_mem_nil, or_false] at hd
    rcases hd with rfl | rfl | rfl | rfl | rfl | rfl
    · exact ⟨0, rfl, by decide, by decide⟩
    · exact ⟨1, rfl, by decide, by decide⟩
    · exact ⟨2, rfl, by decide, by decide⟩
    · exact ⟨3, rfl, by decide, by decide⟩
    · exact ⟨7, rfl, by decide, by decide⟩
    · exact ⟨big, rfl, b0, b1⟩
  show W _ (mL n ws kn l (some (.lst (hs.map .int))) none (some (.int way)) (some (.int f)) none none none st3) _
  have tail : ∀ (a9 a10 : Option D) (st4 : Sto), HF st4 n (N + 5) -> W (sSeq (sSet 10 (eCallK fn__law_pick [.p 0, .p 1] [] (aVals (aCons (hVal (eVar 0)) (aCons (hVal (eVar 1)) (aNil)))) (aVals (aNil)))) (sSeq (sIf (bAnd (bOf (eOp gNe (hVal (eVar 2)) (hVal (eLst (aNil))))) (bOf (eOp gLt (hVal (eVar 6)) (hVal (eC (.int 5)))))) (sRet (eOp gAdd (hVal (eTup (aCons (hVal (eVar 10)) (aNil)))) (hVal (eCallK fn__law_pick [.p 0, .p 1] [] (aVals (aCons (hVal (eVar 0)) (aCons (hVal (eOp gAdd (hVal (eCut (hVal (eVar 2)) (pInt (eUn gNeg (hVal (eC (.int 3))))) (pNo))) (hVal (eVar 2)))) (aNil)))) (aVals (aNil)))))) (sNx)) (sSeq (sIf (bAnd (bOf (eOp gNe (hVal (eVar 2)) (hVal (eLst (aNil))))) (bOf (eOp gLt (hVal (eVar 6)) (hVal (eC (.int 7)))))) (sRet (eTup (aCons (hVal (eVar 10)) (aCons (hVal (eCallK fn__law_pick [.p 0, .p 1] [] (aVals (aCons (hVal (eVar 0)) (aCons (hVal (eLc (iSeq (eVar 2)) [5] (.nm 5) (.ret true) (eOp gIxA (hVal (eVar 5)) (hVal (eC (.int 0)))))) (aNil)))) (aVals (aNil)))) (aCons (hVal (eVar 7)) (aNil)))))) (sNx)) (sRet (eTup (aCons (hVal (eVar 10)) (aCons (hVal (eVar 7)) (aCons (hVal (eCallK fn__law_pick [.p 0, .p 1] [] (aVals (aCons (hVal (eVar 0)) (aCons (hVal (eLst (aCons (hVal (eC (.int 0))) (aCons (hVal (eC (.int 1))) (aCons (hVal (eC (.int 2))) (aCons (hVal (eCallK fn__law_take [.p 0, .p 1] [] (aVals (aCons (hVal (eVar 0)) (aCons (hVal (eOp gPow (hVal (eC (.int 10))) (hVal (eC (.int 8))))) (aNil)))) (aVals (aNil)))) (aNil))))))) (aNil)))) (aVals (aNil)))) (aNil)))))))))
      (mL n ws kn l (some (.lst (hs.map .int))) none (some (.int way)) (some (.int f)) a9 a10 none st4) (fun fl m => match fl with | .rt d => P d m.st | .nx => P .non m.st | _ => False) := by
    intro a9 a10 st4 h4
    bv_omega
    refine fs_pickT h4 (by omega) (by simpa using w0) (by rw [List.length_map]; omega) fun d st5 hd h5 => ?_
    obtain ⟨w, hw, rfl⟩ := List.mem_map.mp hd
    have hlw := hws.low w hw
    have hnj := hws.nj w hw
    show W _ (mL n ws kn l (some (.lst (hs.map .int))) none (some (.int way)) (some (.int f)) a9 a10 (some (.str w)) st5) _
    have kdk : Kd 2 (.lst (kn.map qD)) := Kd.lst fun d hd => by
      obtain ⟨q, hq, rfl⟩ := List.mem_map.mp hd
      have := hk q hq
      exact kd_q ⟨by omega, by omega⟩ ⟨by omega, by omega⟩
    have kne : ∃ c : Bool, gNe (.lst (kn.map qD)) (.lst []) = some (.bl c) /\ (c = true -> kn ≠ []) := by
      obtain ⟨c, e, hc⟩ := kd_ne kdk (Kd.lst (n := 0) (ds := []) (by simp))
      refine ⟨c, e, fun z hz => ?_⟩
      subst hz
      have := hc.mpr rfl
      rw [z] at this
      cases this
    obtain ⟨ck, ek, hck⟩ := kne
    refine w_seq (w_if (w_band (w_bof (w_op (w_hval (w_var rfl (w_hval (w_lst (w_anil ?_)))))))))
    refine xT lv0 (fitk (by simp)) ?_
    refine x3 rfl rfl ek ?_
    have last : ∀ st6, HF st6 n (N + 6) -> W (sRet (eTup (aCons (hVal (eVar 10)) (aCons (hVal (eVar 7)) (aCons (hVal (eCallK fn__law_pick [.p 0, .p 1] [] (aVals (aCons (hVal (eVar 0)) (aCons (hVal (eLst (aCons (hVal (eC (.int 0))) (aCons (hVal (eC (.int 1))) (aCons (hVal (eC (.int 2))) (aCons (hVal (eCallK fn__law_take [.p 0, .p 1] [] (aVals (aCons (hVal (eVar 0)) (aCons (hVal (eOp gPow (hVal (eC (.int 10))) (hVal (eC (.int 8))))) (aNil)))) (aVals (aNil)))) (aNil))))))) (aNil)))) (aVals (aNil)))) (aNil))))))
        (mL n ws kn l (some (.lst (hs.map .int))) none (some (.int way)) (some (.int f)) a9 a10 (some (.str w)) st6) (fun fl m => match fl with | .rt d => P d m.st | .nx => P .non m.st | _ => False) := by
      intro st6 h6
      bv_omega
      refine fs_take (many := 100000000) h6 (by omega) (by decide) (by decide) fun b2 st7 c0 c1 h7 => ?_
      bv_omega
      refine fs_pickL (ds := [.int 0, .int 1, .int 2, .int b2]) h7 (by omega) (by simp) (by simp) fun d st8 hd h8 => ?_
      obtain ⟨s, rfl, s0, s1⟩ : ∃ s : Int, d = .int s /\ 0 <= s /\ s < 100000000 := by
        simp only [List.mem_cons, List.not_mem_nil, or_false] at hd
        rcases hd with rfl | rfl | rfl | rfl
        · exact ⟨0, rfl, by decide, by decide⟩
        · exact ⟨1, rfl, by decide, by decide⟩
        · exact ⟨2, rfl, by decide, by decide⟩
        · exact ⟨b2, rfl, c0, c1⟩
      bv_omega
      exact k w f s st8 (by omega) (by omega) (isL_word hw hnj f0 s0) hlw (h8.mono (by omega))
    refine ⟨_, rfl, fun hc1 => ?_, fun hc1 => ?_⟩
    · have hkn := hck hc1
      bv_omega
      refine ⟨fun hlt => ?_, fun hlt => ?_⟩
      · bv_omega
        refine x3 rfl rfl (addL_ok (by have := cut_len (ds := kn.map qD) (lo := some (-3)) (hi := none); rw [List.length_map] at this ⊢; omega)) ?_
        bv_omega
        refine fs_pickL h5 (by omega) (by simp [hkn]) (by have := cut_len (ds := kn.map qD) (lo := some (-3)) (hi := none); rw [List.length_append]; rw [List.length_map] at this ⊢; omega) fun d st6 hd h6 => ?_
        obtain ⟨q, hq, rfl⟩ : ∃ q ∈ kn, d = qD q := by
          have : d ∈ kn.map qD := by
            rcases List.mem_append.mp hd with z | z
            · exact cut_mem z
            · exact z
          obtain ⟨q, hq, e⟩ := List.mem_map.mp this
          exact ⟨q, hq, e.symm⟩
        bv_omega
        exact k w q.1 q.2 st6 (hk q hq).2.2.1 (hk q hq).2.2.2 (isL_word hw hnj (hk q hq).1 (hk q hq).2.1) hlw (h6.mono (by omega))
      · refine w_nx ?_
        refine w_seq (w_if (w_band (w_bof (w_op (w_hval (w_var rfl (w_hval (w_lst (w_anil ?_)))))))))
        refine xT lv0 (fitk (by simp)) ?_
        refine x3 rfl rfl ek ?_
        refine ⟨_, rfl, fun hc2 => ?_, fun hc2 => ?_⟩
        · bv_omega
          refine ⟨fun hl7 => ?_, fun hl7 => ?_⟩
          · bv_omega
            refine w_lc (fun _ done ys m => ∃ (a6 : Option D), m = mL n ws kn l (some (.lst (hs.map .int))) a6 (some (.int way)) (some (.int f)) a9 a10 (some (.str w)) st5 /\ ys = ((kn.take done.length).map (·.1)).map .int) ?_
            refine w_iseq ?_
            bv_omega
            refine ⟨_, .inl rfl, ⟨none, rfl, rfl⟩, ?_, ?_⟩
            · rintro done d rest ys m2 he ⟨a6, rfl, rfl⟩
              obtain ⟨q, hq, rfl⟩ := map_at he
              refine ⟨_, rfl, w_ret ⟨(fun z => nomatch z), fun _ => ?_⟩⟩
              bv_omega
              rw [List.length_append, List.length_singleton, List.take_add_one, hq, List.map_append, List.map_append]
              rfl
            rintro ys m2 ⟨a6, rfl, rfl⟩
            rw [etk]
            refine ⟨fitk (by rw [List.length_map, List.length_map]; omega), ?_⟩
            bv_omega
            refine fs_pickL h5 (by omega) (by simpa using hkn) (by rw [List.length_map, List.length_map]; omega) fun d st6 hd h6 => ?_
            obtain ⟨x, hx, rfl⟩ := List.mem_map.mp hd
            obtain ⟨q, hq, rfl⟩ := List.mem_map.mp hx
            bv_omega
            exact k w q.1 f st6 (hk q hq).2.2.1 (by omega) (isL_word hw hnj (hk q hq).1 f0) hlw (h6.mono (by omega))
          · refine w_nx ?_
            exact last st5 h5
        · rw [hc1] at hc2; cases hc2
    · refine ⟨(fun z => nomatch z), fun _ => ?_⟩
      refine w_nx ?_
      refine w_seq (w_if (w_band (w_bof (w_op (w_hval (w_var rfl (w_hval (w_lst (w_anil ?_)))))))))
      refine xT lv0 (fitk (by simp)) ?_
      refine x3 rfl rfl ek ?_
      refine ⟨_, rfl, fun hc2 => ?_, fun hc2 => ?_⟩
      · rw [hc1] at hc2; cases hc2
      · refine ⟨(fun z => nomatch z), fun _ => ?_⟩
        refine w_nx ?_
        exact last st5 h5
  refine w_seq (w_if ?_)
  bv_omega
  refine ⟨fun hz => ?_, fun hz => ?_⟩
  · have hsl : (hs.map D.int).length <= 600 := by rw [List.length_map]; exact hhl
    bv_omega
    refine x3 rfl rfl (addL_ok (by rw [List.length_singleton]; omega)) ?_
    bv_omega
    refine fs_pickL h3 (by omega) (by simp) (by rw [List.length_append, List.length_singleton]; omega) fun d st4 hd h4 => ?_
    obtain ⟨b1, rfl, p10, p11⟩ : ∃ p : Int, d = .int p /\ 0 <= p /\ p < 1000000000 := by
      rcases List.mem_append.mp hd with z | z
      · obtain ⟨x, hx, rfl⟩ := List.mem_map.mp z
        exact ⟨x, rfl, (hh x hx).2.1, (hh x hx).2.2⟩
      · exact ⟨f, List.mem_singleton.mp z, f0, by omega⟩
    bv_omega
    refine x3 rfl rfl (addL_ok (by rw [List.length_singleton]; omega)) ?_
    bv_omega
    refine fs_pickL h4 (by omega) (by simp) (by rw [List.length_append, List.length_singleton]; omega) fun d st5 hd h5 => ?_
    obtain ⟨b2, rfl, p20, p21⟩ : ∃ p : Int, d = .int p /\ 0 <= p /\ p < 1000000000 := by
      rcases List.mem_append.mp hd with z | z
      · obtain ⟨x, hx, rfl⟩ := List.mem_map.mp z
        exact ⟨x, rfl, (hh x hx).2.1, (hh x hx).2.2⟩
      · exact ⟨f + 1, List.mem_singleton.mp z, by omega, by omega⟩
    obtain ⟨c1, c2, es2, hc12⟩ := sort2b b1 b2
    refine w_anil ?_
    refine xT lv2 (fitk (by simp)) ?_
    refine w_anil ?_
    have eg : gSorted [.lst [.int b1, .int b2]] = some (.lst [.int c1, .int c2]) := by rw [<- es2]; rfl
    refine x2L rfl eg ?_
    have p30 : 0 <= c1 /\ c1 < 1000000000 /\ 0 <= c2 /\ c2 < 1000000000 := by omega
    show W _ (mL n ws kn l (some (.lst (hs.map .int))) none (some (.int way)) (some (.int f)) (some (.lst [.int c1, .int c2])) none none st5) _
    obtain ⟨y1, d1⟩ := cal_all g c1
    obtain ⟨y2, d2⟩ := cal_all g c2
    have q1 := d1.le g
    have q2 := d2.le g
    have q3 := d1.nn g (by omega)
    have q4 := d2.nn g (by omega)
    refine w_seq (w_set ?_)
    refine w_lc (fun _ done ys m => ∃ a9, m = mL n ws kn l (some (.lst (hs.map .int))) none (some (.int way)) (some (.int f)) (some (.lst [.int c1, .int c2])) a9 none st5 /\ ys = ([.int y1, .int y2] : List D).take done.length) ?_
    refine w_iseq ?_
    bv_omega
    refine ⟨[.int c1, .int c2], .inl rfl, ⟨none, rfl, rfl⟩, ?_, ?_⟩
    · rintro done d rest ys m2 he ⟨a10, rfl, rfl⟩
      refine ⟨_, rfl, w_ret ⟨(fun z => nomatch z), fun _ => ?_⟩⟩
      match done, he with
      | [], he =>
        simp only [List.nil_append, List.cons.injEq] at he
        obtain ⟨rfl, _⟩ := he
        bv_omega
        refine (lawcal_ok g d1).mono ?_
        rintro d st2 ⟨rfl, rfl⟩
        exact ⟨_, rfl, rfl⟩
      | [x], he =>
        simp only [List.cons_append, List.nil_append, List.cons.injEq] at he
        obtain ⟨_, rfl, _⟩ := he
        bv_omega
        refine (lawcal_ok g d2).mono ?_
        rintro d st2 ⟨rfl, rfl⟩
        exact ⟨_, rfl, rfl⟩
      | x :: y :: r, he =>
        have := congrArg List.length he
        simp at this
    · rintro ys m2 ⟨a10, rfl, rfl⟩
      refine ⟨fitk (by simp), ?_⟩
      show W _ (mL n ws kn l (some (.lst (hs.map .int))) none (some (.int way)) (some (.int f)) (some (.lst [.int y1, .int y2])) none none st5) _
      refine w_if ?_
      bv_omega
      refine ⟨fun hb => ?_, fun hb => ?_⟩
      · have hne : y1 ≠ y2 := by
          rintro rfl
          simp [PyData.eqv] at hb
        bv_omega
        have hmin : minI [y1, y2] = if y1 <= y2 then y1 else y2 := rfl
        have hmax : maxI [y1, y2] = if y2 <= y1 then y1 else y2 := rfl
        refine k "join" _ _ st5 ?_ ?_ (isL_join ?_ ?_ ?_ ?_) low_join (h5.mono (by omega))
        · rw [hmin]; split <;> omega
        · rw [hmax]; split <;> omega
        · rw [hmin]; split <;> omega
        · rw [hmin, hmax]; split <;> split <;> omega
        · rw [hmin]; split
          · exact d1.root
          · exact d2.root
        · rw [hmax]; split
          · exact d1.root
          · exact d2.root
      · refine w_nx ?_
        exact tail _ _ _ (h5.mono (by omega))
  · refine w_nx ?_
    exact tail _ _ _ (h3.mono (by omega))
abbrev Lt := Str × Int × Int
abbrev letD (q : Lt) : D := .tup [.str q.1, .int q.2.1, .int q.2.2]
def Lok (q : Lt) : Prop := lowS q.1 = true /\ (0 <= q.2.1 /\ q.2.1 < 1000000000) /\ 0 <= q.2.2 /\ q.2.2 < 1000000000
def runH (l : Ld) (ds : List D) : Ld := ds.foldl next l
theorem isHs_app {ws : List Str} {d : D} : ∀ {ds : List D} {l : Ld}, isHs ws l (ds ++ [d]) = (isHs ws l ds && isL ws (runH l ds) d)
  | [], l => by simp [isHs, runH]
  | x :: r, l => by
    rw [List.cons_append, isHs, isHs, isHs_app, Bool.and_assoc]
    rfl
theorem run_app {d : D} {ds : List D} {l : Ld} : runH l (ds ++ [d]) = next (runH l ds) d := by
  unfold runH
  rw [List.foldl_append]
  rfl
theorem notin_q {q : Int × Int} {kn : List (Int × Int)} (hk : ∀ q ∈ kn, 0 <= q.1 /\ 0 <= q.2 /\ q.1 < 1000000000 /\ q.2 < 1000000000) (hq : 0 <= q.1 /\ 0 <= q.2 /\ q.1 < 1000000000 /\ q.2 < 1000000000) : ∃ c : Bool, gNotInA (qD q) (.lst (kn.map qD)) = some (.bl c) := by
  have kdk : Kd 2 (.lst (kn.map qD)) := Kd.lst fun d hd => by
    obtain ⟨q, hq, rfl⟩ := List.mem_map.mp hd
    have := hk q hq
    exact kd_q ⟨by omega, by omega⟩ ⟨by omega, by omega⟩
  obtain ⟨c, e, _⟩ := kd_notin (kd_q (c := q) ⟨by omega, by omega⟩ ⟨by omega, by omega⟩) kdk
  exact ⟨c, e⟩
abbrev mH (n : Nat) (ws : List Str) (many : Int) (ls : List Lt) (kn : List (Int × Int)) (l : Ld) (a6 a7 : Option D) (st : Sto) : MS := ⟨[some (.obj n), some (wsD ws), some (.int many), some (.lst (ls.map letD)), some (.lst (kn.map qD)), some (ldD l), a6, a7], st⟩
theorem hist_ok {st : Sto} {n N : Nat} {ws : List Str} {many : Nat} {P : D -> Sto -> Prop} (h : HF st n N) (hN : N <= 50000) (hws : Wd ws) (w0 : ws ≠ []) (w1 : ws.length <= 3) (hm : many <= 200)
    (k : ∀ (ls : List Lt) st', isHs ws [] (ls.map letD) = true -> (∀ q ∈ ls, Lok q) -> ls.length = many -> HF st' n (N + 10 * many) -> P (.tup (ls.map letD)) st') : FS fn__law_history [.obj n, wsD ws, .int (many : Nat)] st P := by
  refine fs_run ?_
  unfold d__law_history
  bv_omega
  refine ⟨rfl, ?_⟩
  show W _ (mH n ws many [] [] [] none none st) _
  refine w_seq ?_
  refine w_for (fun _ done m => ∃ (ls : List Lt) (kn : List (Int × Int)) (l : Ld) (a6 a7 : Option D) (st : Sto), m = mH n ws many ls kn l a6 a7 st /\ ls.length = done.length /\ isHs ws [] (ls.map letD) = true /\ runH [] (ls.map letD) = l /\ (∀ q ∈ ls, Lok q) /\
    (∀ q ∈ kn, 0 <= q.1 /\ 0 <= q.2 /\ q.1 < 1000000000 /\ q.2 < 1000000000) /\ kn.length <= done.length /\ GL l /\ (∀ q ∈ l, q.1 < 1000000000) /\ l.length <= done.length /\ HF st n (N + 10 * done.length)) ?_
  refine w_irange1 ?_
  bv_omega
  refine ⟨small_ok (by omega) (by omega), ⟨[], [], [], none, none, st, rfl, rfl, rfl, rfl, by simp, by simp, by simp, GL.nil, by simp, by simp, h⟩, ?_, ?_⟩
  · rintro done d rest m2 he ⟨ls, kn, l, a6, a7, st2, rfl, hl1, hh, hrun, hlok, hkn, hknl, g, hlb, hll, hb⟩
    obtain ⟨hlt, rfl⟩ := range_at he
    refine ⟨_, rfl, ?_⟩
    refine w_seq (w_set (w_callL ?_))
    refine w_acons (w_hval (w_var rfl (w_acons (w_hval (w_var rfl (w_acons (w_hslot rfl (w_acons (w_hslot rfl (w_anil (w_anil ?_)))))))))))
    refine ⟨[.obj n, wsD ws, .lst (kn.map qD), ldD l], [], rfl, rfl, ?_⟩
    refine letter_ok hb (by omega) hws w0 w1 hkn (by omega) g hlb (by omega) fun w x y st3 hx hy hL hlw h3 => ?_
    refine ⟨rfl, h3.2, ?_⟩
    obtain ⟨w', x', y', e, x0, y0, hj, _⟩ := isL_form hL
    cases e
    have happ : isHs ws [] ((ls ++ [(w, x, y)]).map letD) = true := by
      rw [List.map_append]
      show isHs ws [] (ls.map letD ++ [letD (w, x, y)]) = true
      rw [isHs_app, hh, hrun, hL]; rfl
    have hrn : runH [] ((ls ++ [(w, x, y)]).map letD) = next l (letD (w, x, y)) := by
      rw [List.map_append]
      show runH [] (ls.map letD ++ [letD (w, x, y)]) = _
      rw [run_app, hrun]
    have hlok2 : ∀ q ∈ ls ++ [(w, x, y)], Lok q := fun q hq => by
      rcases List.mem_append.mp hq with z | z
      · exact hlok q z
      · rw [List.mem_singleton.mp z]; exact ⟨hlw, ⟨x0, hx⟩, y0, hy⟩
    show W _ (mH n ws many ls kn l (some (.int (done.length : Nat))) (some (letD (w, x, y))) st3) _
    have fin : ∀ kn2 l2 (st4 : Sto), next l (letD (w, x, y)) = l2 -> (∀ q ∈ kn2, 0 <= q.1 /\ 0 <= q.2 /\ q.1 < 1000000000 /\ q.2 < 1000000000) -> kn2.length <= done.length + 1 -> GL l2 -> (∀ q ∈ l2, q.1 < 1000000000) -> l2.length <= done.length + 1 -> HF st4 n (N + 10 * (done.length + 1)) ->
        W (sDrop (eMut 3 gAppend (aVals (aCons (hVal (eVar 7)) (aNil))))) (mH n ws many ls kn2 l2 (some (.int (done.length : Nat))) (some (letD (w, x, y))) st4) (turnQ (fun m => ∃ (ls : List Lt) (kn : List (Int × Int)) (l : Ld) (a6 a7 : Option D) (st : Sto), m = mH n ws many ls kn l a6 a7 st /\ ls.length = (done ++ [D.int (done.length : Nat)]).length /\ isHs ws [] (ls.map letD) = true /\ runH [] (ls.map letD) = l /\ (∀ q ∈ ls, Lok q) /\
    (∀ q ∈ kn, 0 <= q.1 /\ 0 <= q.2 /\ q.1 < 1000000000 /\ q.2 < 1000000000) /\ kn.length <= (done ++ [D.int (done.length : Nat)]).length /\ GL l /\ (∀ q ∈ l, q.1 < 1000000000) /\ l.length <= (done ++ [D.int (done.length : Nat)]).length /\ HF st n (N + 10 * (done ++ [D.int (done.length : Nat)]).length)) (fun fl m1 => match fl with | .nx => W (sFrz 3 (sRet (eFn gTupleA (aCons (hVal (eVar 3)) (aNil))))) m1 (fun fl m => match fl with | .rt d => P d m.st | .nx => P .non m.st | _ => False) | fl => (match fl with | .rt d => P d m1.st | .nx => P .non m1.st | _ => False))) := by
      intro kn2 l2 st4 e1 e2 e3 e4 e5 e6 e7
      refine w_drop (w_mut rfl ?_)
      refine w_avals (w_acons (w_hval (w_var rfl (w_anil ?_))))
      refine ⟨_, lv1, ?_⟩
      refine ⟨_, _, _, rfl, append_ok (by rw [List.length_map]; omega), ?_⟩
      refine ⟨ls ++ [(w, x, y)], kn2, l2, some (.int (done.length : Nat)), some (letD (w, x, y)), st4, ?_, by simp [hl1], happ, by rw [hrn, e1], hlok2, e2, by simp; omega, e4, e5, by simp; omega, by rw [List.length_append, List.length_singleton]; exact e7⟩
      unfold mH
      rw [List.map_append]
      rfl
    refine w_seq (w_if (w_bof (w_op (w_hval (w_op (w_hval (w_var rfl (w_hval (w_c ?_)))))))))
    refine x3 rfl rfl rfl ?_
    refine w_hval (w_c ?_)
    refine x3 rfl rfl (eq_join hlw) ?_
    refine ⟨_, rfl, fun hb2 => ?_, fun hb2 => ?_⟩
    · have hb2 := of_decide_eq_true hb2
      obtain ⟨j1, j2, j3⟩ := hj hb2
      refine w_put ?_
      bv_omega
      refine ⟨_, _, _, rfl, rfl, set_dicI j3 (by omega), ?_⟩
      refine fin kn (l ++ [(y, x)]) st3 (if_pos hb2) hkn (by omega) (g.more x0 j1 j3 (by omega)) (fun q hq => ?_) (by simp; omega) (h3.mono (by omega))
      rcases List.mem_append.mp hq with z | z
      · exact hlb q z
      · rw [List.mem_singleton.mp z]; exact hy
    · have hb2 := of_decide_eq_false hb2
      obtain ⟨c, ec⟩ := notin_q (q := (x, y)) hkn ⟨x0, y0, hx, hy⟩
      refine w_if (w_bof (w_op ?_))
      refine w_hval (w_cut (w_hval (w_var rfl (w_pint (w_c ?_)))))
      refine ⟨_, rfl, w_pno ?_⟩
      refine x2 rfl rfl ?_
      refine w_hslot rfl ?_
      refine x3 rfl rfl ec ?_
      refine ⟨_, rfl, fun _ => ?_, fun _ => ?_⟩
      · refine w_drop (w_mut rfl ?_)
        refine w_avals (w_acons (w_hval (w_cut (w_hval (w_var rfl (w_pint (w_c ?_)))))))
        refine ⟨_, rfl, w_pno ?_⟩
        refine x2 rfl rfl ?_
        refine w_anil ?_
        refine ⟨_, lv1, ?_⟩
        refine ⟨_, _, _, rfl, append_ok (by rw [List.length_map]; omega), ?_⟩
        have ek : kn.map qD ++ [qD (x, y)] = (kn ++ [(x, y)]).map qD := by rw [List.map_append]; rfl
        show W _ ⟨[some (.obj n), some (wsD ws), some (.int many), some (.lst (ls.map letD)), some (.lst (kn.map qD ++ [qD (x, y)])), some (ldD l), _, _], _⟩ _
        rw [ek]
        refine fin (kn ++ [(x, y)]) l st3 (if_neg hb2) (fun q hq => ?_) (by simp; omega) g hlb (by omega) (h3.mono (by omega))
        rcases List.mem_append.mp hq with z | z
        · exact hkn q z
        · rw [List.mem_singleton.mp z]; exact ⟨x0, y0, hx, hy⟩
      · refine w_nx ?_
        exact fin kn l st3 (if_neg hb2) hkn (by omega) g hlb (by omega) (h3.mono (by omega))
  · rintro m2 ⟨ls, kn, l, a6, a7, st2, rfl, hl1, hh, hrun, hlok, hkn, hknl, g, hlb, hll, hb⟩
    rw [rangeD_len] at hl1 hb
    have e2 : (many : Int).toNat = many := by omega
    rw [e2] at hl1 hb
    bv_omega
    exact k ls _ hh hlok hl1 hb
end Lk77
namespace Lk77
open PySem PySem.Spec L2 MI
set_option hygiene false
local macro_rules | `(tactic| bv_omega) => `(tactic| (repeat (first | refine w_seq ?_ | refine w_set ?_ | refine w_rt ?_ | refine w_drop ?_ | refine w_frz ?_ | refine w_multi ?_ | refine w_mcons ?_ | refine w_mnil ?_ | refine w_asg ?_ | refine w_hval ?_ | refine w_var rfl ?_ | refine w_c ?_ | refine w_hslot rfl ?_ | refine w_acons ?_ | refine w_anil ?_ | refine w_op ?_ | refine w_un ?_ | refine w_fn ?_ | refine w_tup ?_ | refine w_lst ?_ | refine w_avals ?_ | refine w_alooks ?_ | refine w_callK ?_ | refine w_cut ?_ | refine w_pint ?_ | refine w_pno ?_ | refine w_bof ?_ | refine w_nx ?_ | refine w_ret ?_ | refine w_fld ?_ | refine w_meth ?_ | refine w_make ?_ | refine w_fldS ?_ | refine w_share ?_ | refine w_shareD ?_ | refine w_putD ?_ | refine w_mutO ?_ | refine w_asgL ?_ | refine w_bnot ?_ | refine w_btru ?_ | refine xT lv0 (fitk (Nat.le_of_ble_eq_true rfl)) ?_ | refine ⟨_, lv0, ?_⟩ | refine xT lv1 (fitk (Nat.le_of_ble_eq_true rfl)) ?_ | refine ⟨_, lv1, ?_⟩ | refine xT lv2 (fitk (Nat.le_of_ble_eq_true rfl)) ?_ | refine ⟨_, lv2, ?_⟩ | refine xT lv3 (fitk (Nat.le_of_ble_eq_true rfl)) ?_ | refine ⟨_, lv3, ?_⟩ | refine xT lv4 (fitk (Nat.le_of_ble_eq_true rfl)) ?_ | refine ⟨_, lv4, ?_⟩ | refine xT lv5 (fitk (Nat.le_of_ble_eq_true rfl)) ?_ | refine ⟨_, lv5, ?_⟩ | refine xT rfl (fitk (Nat.le_of_ble_eq_true rfl)) ?_ | refine x3 rfl rfl rfl ?_ | refine x2 rfl rfl ?_ | refine x2L rfl rfl ?_ | refine Exists.intro _ (Exists.intro _ (And.intro rfl (And.intro rfl ?_))) | refine Exists.intro _ (And.intro rfl ?_))))
local macro_rules | `(tactic| ac_rfl) => `(tactic| (repeat (first | refine w_seq ?_ | refine w_set ?_ | refine w_rt ?_ | refine w_drop ?_ | refine w_frz ?_ | refine w_multi ?_ | refine w_mcons ?_ | refine w_mnil ?_ | refine w_asg ?_ | refine w_hval ?_ | refine w_var rfl ?_ | refine w_c ?_ | refine w_hslot rfl ?_ | refine w_acons ?_ | refine w_anil ?_ | refine w_op ?_ | refine w_un ?_ | refine w_fn ?_ | refine w_tup ?_ | refine w_lst ?_ | refine w_avals ?_ | refine w_alooks ?_ | refine w_callK ?_ | refine w_cut ?_ | refine w_pint ?_ | refine w_pno ?_ | refine w_bof ?_ | refine w_nx ?_ | refine w_ret ?_ | refine w_fld ?_ | refine w_meth ?_ | refine w_make ?_ | refine w_fldS ?_ | refine w_share ?_ | refine w_shareD ?_ | refine w_putD ?_ | refine w_mutO ?_ | refine w_asgL ?_ | refine w_bnot ?_ | refine w_btru ?_ | refine xT lv0 (fitk (Nat.le_of_ble_eq_true rfl)) ?_ | refine ⟨_, lv0, ?_⟩ | refine xT lv1 (fitk (Nat.le_of_ble_eq_true rfl)) ?_ | refine ⟨_, lv1, ?_⟩ | refine xT lv2 (fitk (Nat.le_of_ble_eq_true rfl)) ?_ | refine ⟨_, lv2, ?_⟩ | refine xT lv3 (fitk (Nat.le_of_ble_eq_true rfl)) ?_ | refine ⟨_, lv3, ?_⟩ | refine xT lv4 (fitk (Nat.le_of_ble_eq_true rfl)) ?_ | refine ⟨_, lv4, ?_⟩ | refine xT lv5 (fitk (Nat.le_of_ble_eq_true rfl)) ?_ | refine ⟨_, lv5, ?_⟩ | refine xT rfl (fitk (Nat.le_of_ble_eq_true rfl)) ?_ | refine x3 rfl rfl rfl ?_ | refine x2 rfl rfl ?_ | refine Exists.intro _ (And.intro rfl ?_))))
def As (a : List Nat) : Prop := ∀ c ∈ a, c < 128
theorem okE_S {a : List Nat} (h : As a) : okE (.str (SX.S a)) = some (.str (SX.S a)) := by
  unfold okE
  rw [toPy]
  have : PyData.strOk (SX.S a) = true := by
    rw [PyData.strOk, <- Array.all_toList, List.all_eq_true]
    intro c hc
    have := h c hc
    exact decide_eq_true (by omega)
  simp [SeqAt.shaped, PyData.canLay0, PyData.depth, this]
theorem eqv_S (a b : List Nat) : PyData.eqv (.str (SX.S a)) (.str (SX.S b)) = decide (a = b) := by
  rw [PyData.eqv, SX.S_beq_eq]
theorem gEq_S {a b : List Nat} (ha : As a) (hb : As b) : gEq (.str (SX.S a)) (.str (SX.S b)) = some (.bl (decide (a = b))) := by
  unfold gEq eqB
  rw [okE_S ha, okE_S hb, <- eqv_S]
  rfl
theorem gNe_S {a b : List Nat} (ha : As a) (hb : As b) : gNe (.str (SX.S a)) (.str (SX.S b)) = some (.bl (!decide (a = b))) := by
  unfold gNe eqB
  rw [okE_S ha, okE_S hb, <- eqv_S]
  rfl
theorem as1 {c : Nat} (h : c < 128) : As [c] := fun x hx => by
  rw [List.mem_singleton.mp hx]
  exact h
def isDig (c : Nat) : Bool := decide (48 <= c) && decide (c <= 57)
def isLow (c : Nat) : Bool := decide (97 <= c) && decide (c <= 122)
def numB (a : List Nat) : Bool := decide (0 < a.length) && (decide (a.length < 10) && (a.all isDig && (decide (a = [48]) || decide (a.head? ≠ some 48))))
def numO (a : List Nat) : Option Int := if numB a then some ((NumText.digitsVal a : Nat) : Int) else none
def numD (a : List Nat) : D := match numO a with
  | some i => .int i
  | none => .non
theorem gLen_S {a : List Nat} (h : a.length <= 100000) : gLen [.str (SX.S a)] = some (.int (a.length : Nat)) := by
  show (if fitL (SX.S a).length then some (D.int (SX.S a).length) else none) = _
  rw [SX.S_len, if_pos (fitk h)]
theorem figs : ("0123456789" : Str) = SX.S [48, 49, 50, 51, 52, 53, 54, 55, 56, 57] := by kernel_rfl
theorem lows : ("abcdefghijklmnopqrstuvwxyz" : Str) = SX.S [97, 98, 99, 100, 101, 102, 103, 104, 105, 106, 107, 108, 109, 110, 111, 112, 113, 114, 115, 116, 117, 118, 119, 120, 121, 122] := by kernel_rfl
theorem in_figs (c : Nat) : gInA (.str (SX.S [c])) (.str "0123456789") = some (.bl (isDig c)) := by
  show some (D.bl (!(Builtin.Str.occurrences ("0123456789" : Str) (SX.S [c]) 0 ("0123456789" : Str).length 1).isEmpty)) = _
  rw [figs, SX.in_one]
  congr 2
  unfold isDig
  rw [Bool.eq_iff_iff, decide_eq_true_eq, Bool.and_eq_true, decide_eq_true_eq, decide_eq_true_eq]
  simp only [List.mem_cons, List.not_mem_nil, or_false]
  omega
theorem in_lows (c : Nat) : gInA (.str (SX.S [c])) (.str "abcdefghijklmnopqrstuvwxyz") = some (.bl (isLow c)) := by
  show some (D.bl (!(Builtin.Str.occurrences ("abcdefghijklmnopqrstuvwxyz" : Str) (SX.S [c]) 0 ("abcdefghijklmnopqrstuvwxyz" : Str).length 1).isEmpty)) = _
  rw [lows, SX.in_one]
  congr 2
  unfold isLow
  rw [Bool.eq_iff_iff, decide_eq_true_eq, Bool.and_eq_true, decide_eq_true_eq, decide_eq_true_eq]
  simp only [List.mem_cons, List.not_mem_nil, or_false]
  omega
theorem chars_ok {Z : Str} {p : Nat -> Bool} (hp : ∀ c, gInA (.str (SX.S [c])) (.str Z) = some (.bl (p c))) {a : List Nat} (ha : a.length <= 100000) {st : Sto} {Q : D -> MS -> Prop} (q : Q (.lst (a.map fun c => .bl (p c))) ⟨[some (.str (SX.S a)), none], st⟩) :
    W (eLc (iChars (eVar 0)) [1] (.nm 1) (.ret true) (eOp gInA (hVal (eVar 1)) (hVal (eC (.str Z))))) ⟨[some (.str (SX.S a)), none], st⟩ Q := by
  refine w_lc (fun _ done ys m => ∃ a1 : Option D, m = ⟨[some (.str (SX.S a)), a1], st⟩ /\ ys = (a.take done.length).map fun c => .bl (p c)) ?_
  refine w_ichars (w_var rfl ⟨_, rfl, ⟨none, rfl, rfl⟩, ?_, ?_⟩)
  · rintro done d rest ys m2 he ⟨a1, rfl, rfl⟩
    obtain ⟨c, hc, rfl⟩ := map_at (xs := a) (enc := fun c => .str (SX.S [c])) he
    refine ⟨_, rfl, w_ret ⟨(fun z => nomatch z), fun _ => ?_⟩⟩
    refine w_op (w_hval (w_var rfl (w_hval (w_c ?_))))
    refine x3 rfl rfl (hp c) ⟨_, rfl, ?_⟩
    rw [List.length_append, List.length_singleton, List.take_add_one, hc, List.map_append]
    rfl
  · rintro ys m2 ⟨a1, rfl, rfl⟩
    have e : (chs (SX.S a)).length = a.length := by
      show (a.map _).length = _
      rw [List.length_map]
    rw [e, List.take_length]
    exact ⟨fitk (by rw [List.length_map]; exact ha), q⟩
theorem bls_map (p : Nat -> Bool) : ∀ a : List Nat, bls? (a.map fun c => D.bl (p c)) = some (a.map p)
  | [] => rfl
  | c :: a => by
    rw [List.map_cons, bls?, bls_map p a]
    rfl
theorem gAll_map (p : Nat -> Bool) (a : List Nat) : gAll [.lst (a.map fun c => D.bl (p c))] = some (.bl (a.all p)) := by
  show (bls? _).map (fun ns => D.bl (ns.all id)) = _
  rw [bls_map]
  show some (D.bl ((a.map p).all id)) = _
  rw [List.all_map]
  rfl
theorem zero_S : ("0" : Str) = SX.S [48] := by kernel_rfl
theorem ix0_S {c : Nat} {a : List Nat} (h : (c :: a).length <= 100000) : gIxA (.str (SX.S (c :: a))) (.int 0) = some (.str (SX.S [c])) := by
  show (if fitL (SX.S (c :: a)).length then (atI (c :: a) 0).map fun c => D.str ⟨#[c]⟩ else none) = _
  rw [SX.S_len, if_pos (fitk h)]
  have : atI (c :: a) 0 = some c := by
    unfold atI ixN
    simp
  rw [this]
  rfl
theorem number_ok {a : List Nat} (hA : As a) (ha : a.length <= 100000) {st : Sto} : FS fn_read_number [.str (SX.S a)] st fun r st' => r = numD a /\ st' = st := by
  refine fs_run ?_
  unfold d_read_number
  refine w_seq (w_if (w_bor (w_bnot (w_chain (w_hval (w_c (w_hval (w_fn (w_acons (w_hval (w_var rfl (w_anil ?_))))))))))))
  refine x2L rfl (gLen_S ha) ?_
  refine ⟨_, _, _, rfl, rfl, rfl, fun e => ⟨fun _ => ⟨fun _ => ?_, (fun z => nomatch z)⟩, (fun z => nomatch z)⟩, fun e => ?_⟩
  · refine w_rt (w_c ⟨?_, rfl⟩)
    have e : ¬ (0 < (a.length : Int)) := of_decide_eq_false e
    have : numB a = false := by
      unfold numB
      rw [decide_eq_false (by omega), Bool.false_and]
    unfold numD numO
    rw [this]
    rfl
  have e : 0 < (a.length : Int) := of_decide_eq_true e
  refine w_hval (w_c ⟨_, _, _, rfl, rfl, rfl, ?_⟩)
  by_cases e2 : (a.length : Int) < 10
  · have e3 : decide ((a.length : Int) < 10) = true := decide_eq_true e2
    rw [e3]
    refine ⟨(fun z => nomatch z), fun _ => ?_⟩
    refine w_bnot (w_btru (w_hval (w_fn (w_acons (w_hval (chars_ok in_figs ha (w_anil ?_)))))))
    refine x2L rfl (gAll_map _ _) ?_
    refine ⟨_, a.all isDig, rfl, rfl, fun h => ?_, fun h => ?_⟩
    · have h : a.all isDig = false := by simpa using h
      refine w_rt (w_c ⟨?_, rfl⟩)
      have : numB a = false := by
        unfold numB
        rw [h, Bool.false_and, Bool.and_false, Bool.and_false]
      unfold numD numO
      rw [this]
      rfl
    · have h : a.all isDig = true := by simpa using h
      refine w_nx ?_
      obtain ⟨c, r, rfl⟩ : ∃ c r, a = c :: r := by
        cases a with
        | nil => exact absurd e (by simp)
        | cons c r => exact ⟨c, r, rfl⟩
      have hb : numB (c :: r) = (decide (c :: r = [48]) || decide ((c :: r).head? ≠ some 48)) := by
        unfold numB
        rw [h, decide_eq_true (show 0 < (c :: r).length from by omega), decide_eq_true (show (c :: r).length < 10 from by omega), Bool.true_and, Bool.true_and, Bool.true_and]
      have hi : gIntS [.str (SX.S (c :: r))] = some (.int ((NumText.digitsVal (c :: r) : Nat) : Int)) := by
        show (if (SX.S (c :: r)).length <= 640 then (PySem.intText? (SX.S (c :: r))).map D.int else none) = _
        rw [SX.S_len, if_pos (by omega), SX.int_S h (List.cons_ne_nil _ _) (by omega)]
        rfl
      have yes : numB (c :: r) = true -> numD (c :: r) = .int ((NumText.digitsVal (c :: r) : Nat) : Int) := fun z => by
        unfold numD numO
        rw [z]
        rfl
      have no : numB (c :: r) = false -> numD (c :: r) = .non := fun z => by
        unfold numD numO
        rw [z]
        rfl
      refine w_rt (w_eif (w_bor (w_bof (w_op (w_hval (w_var rfl (w_hval (w_c ?_))))))))
      refine x3 rfl (by rw [zero_S]; rfl) (gEq_S hA (as1 (by decide))) ⟨_, rfl, fun h1 => ⟨fun _ => ?_, (fun z => nomatch z)⟩, fun h1 => ?_⟩
      · refine w_fn (w_acons (w_hval (w_var rfl (w_anil ?_))))
        refine x2L rfl hi ⟨(yes ?_).symm, rfl⟩
        rw [hb, h1, Bool.true_or]
      · refine w_bof (w_op (w_hval (w_op (w_hval (w_var rfl (w_hval (w_c ?_)))))))
        refine x3 rfl rfl (ix0_S ha) ?_
        refine w_hval (w_c ?_)
        refine x3 rfl (by rw [zero_S]; rfl) (gNe_S (as1 (hA c (List.mem_cons_self ..))) (as1 (by decide))) ⟨_, rfl, fun h2 => ?_, fun h2 => ?_⟩
        · refine w_fn (w_acons (w_hval (w_var rfl (w_anil ?_))))
          refine x2L rfl hi ⟨(yes ?_).symm, rfl⟩
          rw [hb, h1, Bool.false_or, decide_eq_true_eq]
          intro z
          have z : some c = some 48 := z
          cases z
          simp at h2
        · refine w_c ⟨(no ?_).symm, rfl⟩
          rw [hb, h1, Bool.false_or, decide_eq_false_iff_not]
          intro z
          refine z ?_
          have h2 : [c] = [48] := by simpa using h2
          cases h2
          rfl
  · have e3 : decide ((a.length : Int) < 10) = false := decide_eq_false e2
    rw [e3]
    refine ⟨fun _ => ⟨fun _ => ?_, (fun z => nomatch z)⟩, (fun z => nomatch z)⟩
    refine w_rt (w_c ⟨?_, rfl⟩)
    have : numB a = false := by
      unfold numB
      rw [decide_eq_false (show ¬ a.length < 10 from by omega), Bool.false_and, Bool.and_false]
    unfold numD numO
    rw [this]
    rfl
theorem numD_tl {a : List Nat} : (∃ i, numO a = some i /\ numD a = .int i) \/ (numO a = none /\ numD a = .non) := by
  unfold numD
  cases numO a with
  | some i => exact .inl ⟨i, rfl, rfl⟩
  | none => exact .inr ⟨rfl, rfl⟩
end Lk77
namespace Lk77
open PySem PySem.Spec L2 MI
set_option hygiene false
local macro_rules | `(tactic| bv_omega) => `(tactic| (repeat (first | refine w_seq ?_ | refine w_set ?_ | refine w_rt ?_ | refine w_drop ?_ | refine w_frz ?_ | refine w_multi ?_ | refine w_mcons ?_ | refine w_mnil ?_ | refine w_asg ?_ | refine w_hval ?_ | refine w_var rfl ?_ | refine w_c ?_ | refine w_hslot rfl ?_ | refine w_acons ?_ | refine w_anil ?_ | refine w_op ?_ | refine w_un ?_ | refine w_fn ?_ | refine w_tup ?_ | refine w_lst ?_ | refine w_avals ?_ | refine w_alooks ?_ | refine w_callK ?_ | refine w_cut ?_ | refine w_pint ?_ | refine w_pno ?_ | refine w_bof ?_ | refine w_nx ?_ | refine w_ret ?_ | refine w_fld ?_ | refine w_meth ?_ | refine w_make ?_ | refine w_fldS ?_ | refine w_share ?_ | refine w_shareD ?_ | refine w_putD ?_ | refine w_mutO ?_ | refine w_asgL ?_ | refine w_bnot ?_ | refine w_btru ?_ | refine xT lv0 (fitk (Nat.le_of_ble_eq_true rfl)) ?_ | refine ⟨_, lv0, ?_⟩ | refine xT lv1 (fitk (Nat.le_of_ble_eq_true rfl)) ?_ | refine ⟨_, lv1, ?_⟩ | refine xT lv2 (fitk (Nat.le_of_ble_eq_true rfl)) ?_ | refine ⟨_, lv2, ?_⟩ | refine xT lv3 (fitk (Nat.le_of_ble_eq_true rfl)) ?_ | refine ⟨_, lv3, ?_⟩ | refine xT lv4 (fitk (Nat.le_of_ble_eq_true rfl)) ?_ | refine ⟨_, lv4, ?_⟩ | refine xT lv5 (fitk (Nat.le_of_ble_eq_true rfl)) ?_ | refine ⟨_, lv5, ?_⟩ | refine xT rfl (fitk (Nat.le_of_ble_eq_true rfl)) ?_ | refine x3 rfl rfl rfl ?_ | refine x2 rfl rfl ?_ | refine x2L rfl rfl ?_ | refine Exists.intro _ (Exists.intro _ (And.intro rfl (And.intro rfl ?_))) | refine Exists.intro _ (And.intro rfl ?_))))
local macro_rules | `(tactic| ac_rfl) => `(tactic| (repeat (first | refine w_seq ?_ | refine w_set ?_ | refine w_rt ?_ | refine w_drop ?_ | refine w_frz ?_ | refine w_multi ?_ | refine w_mcons ?_ | refine w_mnil ?_ | refine w_asg ?_ | refine w_hval ?_ | refine w_var rfl ?_ | refine w_c ?_ | refine w_hslot rfl ?_ | refine w_acons ?_ | refine w_anil ?_ | refine w_op ?_ | refine w_un ?_ | refine w_fn ?_ | refine w_tup ?_ | refine w_lst ?_ | refine w_avals ?_ | refine w_alooks ?_ | refine w_callK ?_ | refine w_cut ?_ | refine w_pint ?_ | refine w_pno ?_ | refine w_bof ?_ | refine w_nx ?_ | refine w_ret ?_ | refine w_fld ?_ | refine w_meth ?_ | refine w_make ?_ | refine w_fldS ?_ | refine w_share ?_ | refine w_shareD ?_ | refine w_putD ?_ | refine w_mutO ?_ | refine w_asgL ?_ | refine w_bnot ?_ | refine w_btru ?_ | refine xT lv0 (fitk (Nat.le_of_ble_eq_true rfl)) ?_ | refine ⟨_, lv0, ?_⟩ | refine xT lv1 (fitk (Nat.le_of_ble_eq_true rfl)) ?_ | refine ⟨_, lv1, ?_⟩ | refine xT lv2 (fitk (Nat.le_of_ble_eq_true rfl)) ?_ | refine ⟨_, lv2, ?_⟩ | refine xT lv3 (fitk (Nat.le_of_ble_eq_true rfl)) ?_ | refine ⟨_, lv3, ?_⟩ | refine xT lv4 (fitk (Nat.le_of_ble_eq_true rfl)) ?_ | refine ⟨_, lv4, ?_⟩ | refine xT lv5 (fitk (Nat.le_of_ble_eq_true rfl)) ?_ | refine ⟨_, lv5, ?_⟩ | refine xT rfl (fitk (Nat.le_of_ble_eq_true rfl)) ?_ | refine x3 rfl rfl rfl ?_ | refine x2 rfl rfl ?_ | refine Exists.intro _ (And.intro rfl ?_))))
theorem digs_lt : ∀ n (a : List Nat), a.length = n -> a.all isDig = true -> NumText.digitsVal a < 10 ^ n
  | 0, a, h, _ => by
    rw [List.length_eq_zero_iff.mp h]
    decide
  | n + 1, a, h, hd => by
    rcases List.eq_nil_or_concat a with rfl | ⟨b, c, rfl⟩
    · simp at h
    · rw [List.concat_eq_append] at h hd ⊢
      rw [List.length_append, List.length_singleton] at h
      rw [List.all_append, Bool.and_eq_true] at hd
      have hb := digs_lt n b (by omega) hd.1
      have hc : isDig c = true := by simpa using hd.2
      unfold isDig at hc
      rw [Bool.and_eq_true, decide_eq_true_eq, decide_eq_true_eq] at hc
      rw [NumText.digitsVal_snoc, Nat.pow_succ]
      omega
theorem numO_b {a : List Nat} {i : Int} (h : numO a = some i) : 0 <= i /\ i < 1000000000 := by
  unfold numO at h
  split at h
  · next hb =>
    cases h
    unfold numB at hb
    rw [Bool.and_eq_true, Bool.and_eq_true, Bool.and_eq_true, decide_eq_true_eq, decide_eq_true_eq] at hb
    have := digs_lt a.length a rfl hb.2.2.1
    have h2 : 10 ^ a.length <= 10 ^ 9 := Nat.pow_le_pow_right (by decide) (by omega)
    have h3 : (10 : Nat) ^ 9 = 1000000000 := by decide
    omega
  · cases h
def JN : List Nat := [106, 111, 105, 110]
theorem jn_S : ("join" : Str) = SX.S JN := by kernel_rfl
def nameB (p : List Nat) : Bool := decide (0 < p.length) && (decide (p.length < 9) && (!decide (p = JN) && p.all isLow))
def sepL (p : List Nat) : List Nat := if p = JN then [32] else [46]
def two (ps : List (List Nat)) : Option (Int × Int) := match ps.map numO with
  | [some x, some y] => some (x, y)
  | _ => none
def rowO (a : List Nat) : Option (List Nat × Int × Int) := match TL.par [32] [] a with
  | none => none
  | some (p, q) => (two (TL.spl (sepL p) 0 [] q)).map fun xy => (p, xy.1, xy.2)
theorem two_some {ps : List (List Nat)} {x y : Int} (h : two ps = some (x, y)) : ∃ a b, ps = [a, b] /\ numO a = some x /\ numO b = some y := by
  unfold two at h
  match ps, h with
  | [a, b], h =>
    simp only [List.map_cons, List.map_nil] at h
    cases ha : numO a with
    | none => rw [ha] at h; cases h
    | some i =>
      cases hb : numO b with
      | none => rw [ha, hb] at h; cases h
      | some j =>
        rw [ha, hb] at h
        cases h
        exact ⟨a, b, rfl, ha, hb⟩
  | [], h => cases h
  | [a], h => simp at h
  | a :: b :: c :: r, h => simp at h
theorem RN.non {n b : Nat} : RN n b .non := ⟨.none, by rw [toPy], by rw [nic], by rw [PyData.depth]; exact Nat.zero_le _, by rw [PyData.bulk]; exact Nat.zero_le _, by rw [noB]⟩
theorem kd_nums (ps : List (List Nat)) : Kd 1 (.lst (ps.map numD)) := Kd.lst fun d hd => by
  obtain ⟨a, _, rfl⟩ := List.mem_map.mp hd
  have := p9
  rcases numD_tl (a := a) with ⟨i, h1, h2⟩ | ⟨h1, h2⟩
  · rw [h2]
    have := numO_b h1
    exact Kd.int (by omega) (by omega)
  · rw [h2]
    exact ⟨0, RN.non⟩
theorem kd_in {n k : Nat} {x : D} {ds : List D} (hx : Kd n x) (hd : Kd k (.lst ds)) (h1 : n <= 64 := by decide) (h2 : k <= 64 := by decide) : ∃ c : Bool, gInA x (.lst ds) = some (.bl c) /\ (c = true ↔ x ∈ ds) := by
  obtain ⟨b, hx⟩ := hx
  obtain ⟨b', hd⟩ := hd
  obtain ⟨c, e, _, h⟩ := gIn_lst hx hd h1 h2
  exact ⟨c, e, h⟩
def hole (ps : List (List Nat)) : Bool := ps.any fun a => (numO a).isNone
theorem non_in (ps : List (List Nat)) : gInA .non (.lst (ps.map numD)) = some (.bl (hole ps)) := by
  obtain ⟨c, e, h⟩ := kd_in (x := .non) ⟨0, RN.non (n := 0)⟩ (kd_nums ps)
  rw [e]
  congr 2
  rw [Bool.eq_iff_iff, h]
  unfold hole
  rw [List.any_eq_true, List.mem_map]
  constructor
  · rintro ⟨a, ha, e⟩
    refine ⟨a, ha, ?_⟩
    rcases numD_tl (a := a) with ⟨i, h1, h2⟩ | ⟨h1, h2⟩
    · rw [h2] at e; cases e
    · rw [h1]; rfl
  · rintro ⟨a, ha, e⟩
    refine ⟨a, ha, ?_⟩
    rcases numD_tl (a := a) with ⟨i, h1, h2⟩ | ⟨h1, h2⟩
    · rw [h1] at e; cases e
    · exact h2
theorem hole_two {ps : List (List Nat)} (h : hole ps = false) (hl : ps.length = 2) : ∃ x y, two ps = some (x, y) /\ ps.map numD = [.int x, .int y] := by
  match ps, hl with
  | [a, b], _ =>
    unfold hole at h
    simp only [List.any_cons, List.any_nil, Bool.or_false, Bool.or_eq_false_iff] at h
    obtain ⟨h1, h2⟩ := h
    cases ha : numO a with
    | none => rw [ha] at h1; cases h1
    | some i =>
      cases hb : numO b with
      | none => rw [hb] at h2; cases h2
      | some j =>
        refine ⟨i, j, ?_, ?_⟩
        · unfold two
          simp only [List.map_cons, List.map_nil, ha, hb]
        · simp only [List.map_cons, List.map_nil, numD, ha, hb]
theorem hole_none {ps : List (List Nat)} (h : hole ps = true \/ ps.length ≠ 2) : two ps = none := by
  cases e : two ps with
  | none => rfl
  | some xy =>
    obtain ⟨a, b, rfl, ha, hb⟩ := two_some (x := xy.1) (y := xy.2) e
    rcases h with h | h
    · unfold hole at h
      simp [ha, hb] at h
    · exact absurd rfl h
theorem numbers_ok {ps : List (List Nat)} (hA : ∀ a ∈ ps, As a) (hp : ∀ a ∈ ps, a.length <= 100000) (hl : ps.length <= 100000) {st : Sto} :
    FS fn_read_numbers [.lst (ps.map fun a => .str (SX.S a))] st fun r st' => r = (if hole ps then .non else .tup (ps.map numD)) /\ st' = st := by
  refine fs_run ?_
  unfold d_read_numbers
  refine w_seq (w_set ?_)
  refine w_lc (fun _ done ys m => ∃ a2 : Option D, m = ⟨[some (.lst (ps.map fun a => .str (SX.S a))), none, a2], st⟩ /\ ys = (ps.take done.length).map numD) ?_
  refine w_iseq (w_var rfl ⟨_, .inl rfl, ⟨none, rfl, rfl⟩, ?_, ?_⟩)
  · rintro done d rest ys m2 he ⟨a2, rfl, rfl⟩
    obtain ⟨a, ha, rfl⟩ := map_at (xs := ps) (enc := fun a => .str (SX.S a)) he
    refine ⟨_, rfl, w_ret ⟨(fun z => nomatch z), fun _ => ?_⟩⟩
    refine w_callK (w_avals (w_acons (w_hval (w_var rfl (w_anil ⟨_, lv1, w_avals (w_anil ⟨_, lv0, ?_⟩)⟩)))))
    refine (number_ok (hA a (List.mem_of_getElem? ha)) (hp a (List.mem_of_getElem? ha))).mono ?_
    rintro r st' ⟨rfl, rfl⟩
    refine ⟨_, rfl, ?_⟩
    rw [List.length_append, List.length_singleton, List.take_add_one, ha, List.map_append]
    rfl
  rintro ys m2 ⟨a2, rfl, rfl⟩
  have e : List.take (List.map (fun a => D.str (SX.S a)) ps).length ps = ps := by rw [List.length_map, List.take_length]
  rw [e]
  refine ⟨fitk (by rw [List.length_map]; exact hl), ?_⟩
  show W _ ⟨[some (.lst (ps.map fun a => .str (SX.S a))), some (.lst (ps.map numD)), none], st⟩ _
  refine w_rt (w_eif (w_bof (w_op (w_hval (w_c (w_hval (w_var rfl ?_)))))))
  refine x3 rfl rfl (non_in ps) ⟨_, rfl, fun h => ?_, fun h => ?_⟩
  · refine w_c ⟨?_, rfl⟩
    rw [h]
    rfl
  · refine w_fn (w_acons (w_hval (w_var rfl (w_anil ?_))))
    refine x2L rfl rfl ⟨?_, rfl⟩
    rw [h]
    rfl
theorem as_jn : As JN := fun c hc => by
  unfold JN at hc
  simp only [List.mem_cons, List.not_mem_nil, or_false] at hc
  omega
theorem name_ok {p : List Nat} (hA : As p) (hp : p.length <= 100000) {st : Sto} : FS fn_is_name [.str (SX.S p)] st fun r st' => r = .bl (nameB p) /\ st' = st := by
  refine fs_run ?_
  unfold d_is_name
  refine w_seq (w_if (w_bor (w_bnot (w_btru (w_hval (w_un (w_hval (w_var rfl ?_))))))))
  refine x2 rfl rfl ⟨_, _, rfl, rfl, (fun z => nomatch z), fun _ => ?_⟩
  refine w_bor (w_bnot (w_chain (w_hval (w_c (w_hval (w_fn (w_acons (w_hval (w_var rfl (w_anil ?_))))))))))
  refine x2L rfl (gLen_S hp) ?_
  refine ⟨_, _, _, rfl, rfl, rfl, fun e => ⟨fun _ => ⟨fun _ => ?_, (fun z => nomatch z)⟩, (fun z => nomatch z)⟩, fun e => ?_⟩
  · refine w_rt (w_c ⟨?_, rfl⟩)
    have e : ¬ (0 < (p.length : Int)) := of_decide_eq_false e
    unfold nameB
    rw [decide_eq_false (by omega), Bool.false_and]
  have e : 0 < (p.length : Int) := of_decide_eq_true e
  refine w_hval (w_c ⟨_, _, _, rfl, rfl, rfl, ?_⟩)
  by_cases e2 : (p.length : Int) < 9
  · have e3 : decide ((p.length : Int) < 9) = true := decide_eq_true e2
    rw [e3]
    refine ⟨(fun z => nomatch z), fun _ => ?_⟩
    have hb : nameB p = (!decide (p = JN) && p.all isLow) := by
      unfold nameB
      rw [decide_eq_true (show 0 < p.length from by omega), decide_eq_true (show p.length < 9 from by omega), Bool.true_and, Bool.true_and]
    rw [hb]
    refine w_bof (w_op (w_hval (w_var rfl (w_hval (w_c ?_)))))
    refine x3 rfl (by rw [jn_S]; rfl) (gEq_S hA as_jn) ?_
    refine ⟨_, rfl, fun h1 => ?_, fun h1 => ?_⟩
    · rw [h1]
      exact w_rt (w_c ⟨rfl, rfl⟩)
    · rw [h1]
      refine w_nx (w_rt (w_fn (w_acons (w_hval (chars_ok in_lows hp (w_anil ?_))))))
      exact x2L rfl (gAll_map _ _) ⟨rfl, rfl⟩
  · have e3 : decide ((p.length : Int) < 9) = false := decide_eq_false e2
    rw [e3]
    refine ⟨fun _ => ⟨fun _ => ?_, (fun z => nomatch z)⟩, (fun z => nomatch z)⟩
    refine w_rt (w_c ⟨?_, rfl⟩)
    unfold nameB
    rw [decide_eq_false (show ¬ p.length < 9 from by omega), Bool.false_and, Bool.and_false]
theorem name_low {p : List Nat} (h : nameB p = true \/ p = JN) : lowS (SX.S p) = true := by
  rcases h with h | rfl
  · refine low_S.mpr fun c hc => ?_
    unfold nameB at h
    rw [Bool.and_eq_true, Bool.and_eq_true, Bool.and_eq_true] at h
    have := List.all_eq_true.mp h.2.2.2 c hc
    unfold isLow at this
    rw [Bool.and_eq_true, decide_eq_true_eq, decide_eq_true_eq] at this
    omega
  · rw [<- jn_S]
    exact low_join
def letO (a : List Nat) : Option Lt := match rowO a with
  | some (p, x, y) => if p = JN \/ nameB p = true then some (SX.S p, x, y) else none
  | none => none
def letR (a : List Nat) : D := match letO a with
  | some t => letD t
  | none => .non
theorem spl_sum (S : List Nat) : ∀ (k : Nat) (acc l : List Nat), ∀ p ∈ TL.spl S k acc l, p.length <= acc.length + l.length := by
  intro k acc l
  induction l generalizing k acc with
  | nil =>
    intro p hp
    rw [TL.spl_nil] at hp
    rw [List.mem_singleton.mp hp]
    omega
  | cons c r ih =>
    intro p hp
    cases k with
    | zero =>
      cases h : TL.pre S (c :: r)
      · rw [TL.spl_miss h] at hp
        have := ih 0 (acc ++ [c]) p hp
        rw [List.length_append, List.length_singleton] at this
        rw [List.length_cons]
        omega
      · rw [TL.spl_hit h] at hp
        rcases List.mem_cons.mp hp with rfl | hp
        · omega
        · have := ih _ [] p hp
          rw [List.length_cons]
          simp at this
          omega
    | succ k =>
      have := ih k acc p hp
      rw [List.length_cons]
      omega
theorem spl_mem (S : List Nat) : ∀ (k : Nat) (acc l : List Nat), ∀ p ∈ TL.spl S k acc l, ∀ c ∈ p, c ∈ acc \/ c ∈ l := by
  intro k acc l
  induction l generalizing k acc with
  | nil =>
    intro p hp c hc
    rw [TL.spl_nil] at hp
    rw [List.mem_singleton.mp hp] at hc
    exact .inl hc
  | cons d r ih =>
    intro p hp c hc
    cases k with
    | zero =>
      cases h : TL.pre S (d :: r)
      · rw [TL.spl_miss h] at hp
        rcases ih 0 (acc ++ [d]) p hp c hc with z | z
        · rcases List.mem_append.mp z with z | z
          · exact .inl z
          · rw [List.mem_singleton.mp z]
            exact .inr (List.mem_cons_self ..)
        · exact .inr (List.mem_cons_of_mem _ z)
      · rw [TL.spl_hit h] at hp
        rcases List.mem_cons.mp hp with rfl | hp
        · exact .inl hc
        · rcases ih _ [] p hp c hc with z | z
          · cases z
          · exact .inr (List.mem_cons_of_mem _ z)
    | succ k =>
      rcases ih k acc p hp c hc with z | z
      · exact .inl z
      · exact .inr (List.mem_cons_of_mem _ z)
theorem spl_count (S : List Nat) : ∀ (k : Nat) (acc l : List Nat), (TL.spl S k acc l).length <= l.length + 1 := by
  intro k acc l
  induction l generalizing k acc with
  | nil => rw [TL.spl_nil]; simp
  | cons c r ih =>
    cases k with
    | zero =>
      cases h : TL.pre S (c :: r)
      · rw [TL.spl_miss h]
        have := ih 0 (acc ++ [c])
        rw [List.length_cons]
        omega
      · rw [TL.spl_hit h, List.length_cons, List.length_cons]
        have := ih (S.length - 1) []
        omega
    | succ k =>
      have := ih k acc
      rw [List.length_cons]
      show (TL.spl S k acc r).length <= _
      omega
theorem par_cases (a : List Nat) : (32 ∉ a /\ TL.par [32] [] a = none /\ TL.spl [32] 0 [] a = [a]) \/ ∃ p q, a = p ++ 32 :: q /\ 32 ∉ p /\ TL.par [32] [] a = some (p, q) /\ TL.spl [32] 0 [] a = p :: TL.spl [32] 0 [] q := by
  by_cases h : 32 ∈ a
  · obtain ⟨p, q, rfl, hp⟩ := List.eq_append_cons_of_mem h
    exact .inr ⟨p, q, rfl, hp, SX.par_head (sep := []) q hp, SX.spl_free (sep := [32]) q (by simp) (SX.free_head hp)⟩
  · refine .inl ⟨h, SX.par_head_none h, ?_⟩
    have := SX.spl_join (c := 32) (sep := []) (parts := [a]) (by simp) (fun p hp => by rw [List.mem_singleton.mp hp]; exact h)
    exact this
theorem blank_S : (" " : Str) = SX.S [32] := by kernel_rfl
theorem dot_S : ("." : Str) = SX.S [46] := by kernel_rfl
theorem split1 {c : Nat} (hc : c < 256) (a : List Nat) : Txt.split (SX.S a) (SX.S [c]) = (TL.spl [c] 0 [] a).map SX.S := SX.split_S (by simp) (by simpa using hc)
theorem map_S (ps : List (List Nat)) : (ps.map SX.S).map D.str = ps.map fun a => .str (SX.S a) := by rw [List.map_map]; rfl
theorem letter_read {a : List Nat} (hA : As a) (ha : a.length <= 90000) {st : Sto} : FS fn_read_letter [.str (SX.S a)] st fun r st' => r = letR a /\ st' = st := by
  refine fs_run ?_
  unfold d_read_letter
  obtain ⟨p, b, q, ep, hp, hq, Ap, Aq, hn⟩ : ∃ p b q, Txt.partition (SX.S a) (SX.S [32]) = (SX.S p, SX.S b, SX.S q) /\ p.length <= 90000 /\ q.length <= 90000 /\ As p /\ As q /\ ((TL.par [32] [] a = some (p, q)) \/ (TL.par [32] [] a = none /\ q = [])) := by
    rcases par_cases a with ⟨h1, h2, h3⟩ | ⟨p, q, e, h1, h2, h3⟩
    · exact ⟨a, [], [], SX.partition_none (by simp) h2, ha, by simp, hA, (fun c hc => nomatch hc), .inr ⟨h2, rfl⟩⟩
    · have hl := congrArg List.length e
      rw [List.length_append, List.length_cons] at hl
      exact ⟨p, [32], q, SX.partition_some (by simp) h2, by omega, by omega, (fun c hc => hA c (by rw [e]; simp [hc])), (fun c hc => hA c (by rw [e]; simp [hc])), .inl h2⟩
  refine w_seq (w_asg ?_)
  refine w_parts (w_var rfl ⟨_, rfl, w_c ⟨_, rfl, ?_, ?_⟩⟩)
  · rw [blank_S, SX.S_len, SX.S_len, fitk (by omega)]
    rfl
  rw [blank_S, ep]
  refine ⟨_, rfl, ?_⟩
  show W _ ⟨[some (.str (SX.S a)), some (.str (SX.S p)), some (.str (SX.S b)), some (.str (SX.S q)), none], st⟩ _
  have hsep : W (eIf (bOf (eOp gEq (hVal (eVar 1)) (hVal (eC (.str "join"))))) (eC (.str " ")) (eC (.str "."))) ⟨[some (.str (SX.S a)), some (.str (SX.S p)), some (.str (SX.S b)), some (.str (SX.S q)), none], st⟩ (fun d m => d = .str (SX.S (sepL p)) /\ m = ⟨[some (.str (SX.S a)), some (.str (SX.S p)), some (.str (SX.S b)), some (.str (SX.S q)), none], st⟩) := by
    refine w_eif (w_bof (w_op (w_hval (w_var rfl (w_hval (w_c ?_))))))
    refine x3 rfl (by rw [jn_S]; rfl) (gEq_S Ap as_jn) ?_
    unfold sepL
    refine ⟨_, rfl, fun h => ?_, fun h => ?_⟩
    · rw [if_pos (of_decide_eq_true h), <- blank_S]
      exact w_c ⟨rfl, rfl⟩
    · rw [if_neg (of_decide_eq_false h), <- dot_S]
      exact w_c ⟨rfl, rfl⟩
  have hs1 : (sepL p).length = 1 /\ Txt.split (SX.S q) (SX.S (sepL p)) = (TL.spl (sepL p) 0 [] q).map SX.S := by
    unfold sepL
    split
    · exact ⟨rfl, split1 (by decide) q⟩
    · exact ⟨rfl, split1 (by decide) q⟩
  have hps : ∀ z ∈ TL.spl (sepL p) 0 [] q, z.length <= 100000 := fun z hz => by
    have := spl_sum _ _ _ _ z hz
    simp at this
    omega
  have hpA : ∀ z ∈ TL.spl (sepL p) 0 [] q, As z := fun z hz c hc => by
    rcases spl_mem _ _ _ _ z hz c hc with h | h
    · cases h
    · exact Aq c h
  have hpl : (TL.spl (sepL p) 0 [] q).length <= 100000 := by
    have := spl_count (sepL p) 0 [] q
    omega
  refine w_seq (w_set (w_callK (w_avals (w_acons (w_hval (w_split (w_var rfl ⟨_, rfl, hsep.mono ?_⟩)))))))
  rintro d m ⟨rfl, rfl⟩
  refine ⟨_, rfl, ?_, ?_⟩
  · rw [SX.S_len, SX.S_len, hs1.1, fitk (by omega)]
    rfl
  rw [hs1.2, map_S]
  refine w_anil ⟨_, lv1, w_avals (w_anil ⟨_, lv0, ?_⟩)⟩
  refine (numbers_ok hpA hps hpl).mono ?_
  rintro r st' ⟨rfl, rfl⟩
  show W _ ⟨[some (.str (SX.S a)), some (.str (SX.S p)), some (.str (SX.S b)), some (.str (SX.S q)), some _], st'⟩ _
  generalize hg : TL.spl (sepL p) 0 [] q = ps at hps hpl hpA
  have none_of : two ps = none -> letR a = .non := fun h => by
    unfold letR letO rowO
    rcases hn with hn | ⟨hn, _⟩
    · rw [hn]
      simp only [hg, h, Option.map_none]
    · rw [hn]
  cases hh : hole ps
  · refine w_seq (w_if (w_bor (w_bof (w_op (w_hval (w_var rfl (w_hval (w_c ?_))))))))
    refine x3 rfl rfl (d := .bl false) rfl ⟨_, rfl, (fun z => nomatch z), fun _ => ?_⟩
    refine w_bor (w_bof (w_op (w_hval (w_fn (w_acons (w_hval (w_var rfl (w_anil ?_))))))))
    refine x2L rfl rfl ?_
    refine w_hval (w_c ?_)
    by_cases hl : ps.length = 2
    · obtain ⟨x, y, h2, em⟩ := hole_two hh hl
      rw [em]
      refine x3 rfl rfl rfl ⟨_, rfl, (fun z => nomatch z), fun _ => ?_⟩
      have hpar : TL.par [32] [] a = some (p, q) := by
        rcases hn with hn | ⟨_, rfl⟩
        · exact hn
        · rw [TL.spl_nil] at hg
          rw [<- hg] at hl
          cases hl
      have hlet : letR a = if p = JN \/ nameB p = true then letD (SX.S p, x, y) else .non := by
        unfold letR letO rowO
        rw [hpar]
        simp only [hg, h2, Option.map_some]
        by_cases hc : p = JN \/ nameB p = true
        · rw [if_pos hc, if_pos hc]
        · rw [if_neg hc, if_neg hc]
      rw [hlet]
      have yes : (p = JN \/ nameB p = true) -> W (sRet (eOp gAdd (hVal (eTup (aCons (hVal (eVar 1)) (aNil)))) (hVal (eVar 4)))) ⟨[some (.str (SX.S a)), some (.str (SX.S p)), some (.str (SX.S b)), some (.str (SX.S q)), some (.tup [.int x, .int y])], st'⟩ (fun fl m => match fl with | .rt d => (d = (if p = JN \/ nameB p = true then letD (SX.S p, x, y) else .non) /\ m.st = st') | .nx => ((D.non : D) = (if p = JN \/ nameB p = true then letD (SX.S p, x, y) else .non) /\ m.st = st') | _ => False) := fun h => by
        refine w_rt (w_op (w_hval (w_tup (w_acons (w_hval (w_var rfl (w_anil ?_)))))))
        refine xT lv1 (fitk (by simp)) ?_
        refine w_hval (w_var rfl ?_)
        refine x3 rfl rfl (addT_ok (by simp)) ⟨?_, rfl⟩
        rw [if_pos h]
        rfl
      refine w_band (w_bof (w_op (w_hval (w_var rfl (w_hval (w_c ?_))))))
      refine x3 rfl (by rw [jn_S]; rfl) (gNe_S Ap as_jn) ?_
      refine ⟨_, rfl, fun h => ?_, fun h => ?_⟩
      · have hnj : p ≠ JN := by simpa using h
        refine w_bnot (w_btru (w_hval (w_callK (w_avals (w_acons (w_hval (w_var rfl (w_anil ⟨_, lv1, w_avals (w_anil ⟨_, lv0, ?_⟩)⟩))))))))
        refine (name_ok Ap (by omega)).mono ?_
        rintro r st2 ⟨rfl, rfl⟩
        refine ⟨_, _, rfl, rfl, fun h2 => ?_, fun h2 => ?_⟩
        · refine w_rt (w_c ⟨?_, rfl⟩)
          have h2 : nameB p = false := by simpa using h2
          rw [if_neg (by rintro (z | z); exact hnj z; rw [z] at h2; cases h2)]
        · have h2 : nameB p = true := by simpa using h2
          exact w_nx (yes (.inr h2))
      · have hj : p = JN := by simpa using h
        refine ⟨(fun z => nomatch z), fun _ => w_nx (yes (.inl hj))⟩
    · have e2 : gNe (.int ((ps.map numD).length : Nat)) (.int 2) = some (.bl true) := by
        show some (D.bl (!(PyData.eqv (.int _) (.int 2)))) = _
        rw [List.length_map]
        simp [PyData.eqv]
        omega
      refine x3 rfl rfl e2 ⟨_, rfl, fun _ => ⟨fun _ => ?_, (fun z => nomatch z)⟩, (fun z => nomatch z)⟩
      refine w_rt (w_c ?_)
      exact ⟨(none_of (hole_none (.inr hl))).symm, rfl⟩
  · refine w_seq (w_if (w_bor (w_bof (w_op (w_hval (w_var rfl (w_hval (w_c ?_))))))))
    refine x3 rfl rfl (d := .bl true) rfl ⟨_, rfl, fun _ => ⟨fun _ => ?_, (fun z => nomatch z)⟩, (fun z => nomatch z)⟩
    refine w_rt (w_c ?_)
    exact ⟨(none_of (hole_none (.inl hh))).symm, rfl⟩
end Lk77
namespace Lk77
open PySem PySem.Spec L2 MI
set_option hygiene false
local macro_rules | `(tactic| bv_omega) => `(tactic| (repeat (first | refine w_seq ?_ | refine w_set ?_ | refine w_rt ?_ | refine w_drop ?_ | refine w_frz ?_ | refine w_multi ?_ | refine w_mcons ?_ | refine w_mnil ?_ | refine w_asg ?_ | refine w_hval ?_ | refine w_var rfl ?_ | refine w_c ?_ | refine w_hslot rfl ?_ | refine w_acons ?_ | refine w_anil ?_ | refine w_op ?_ | refine w_un ?_ | refine w_fn ?_ | refine w_tup ?_ | refine w_lst ?_ | refine w_avals ?_ | refine w_alooks ?_ | refine w_callK ?_ | refine w_cut ?_ | refine w_pint ?_ | refine w_pno ?_ | refine w_bof ?_ | refine w_nx ?_ | refine w_ret ?_ | refine w_fld ?_ | refine w_meth ?_ | refine w_make ?_ | refine w_fldS ?_ | refine w_share ?_ | refine w_shareD ?_ | refine w_putD ?_ | refine w_mutO ?_ | refine w_asgL ?_ | refine w_bnot ?_ | refine w_btru ?_ | refine xT lv0 (fitk (Nat.le_of_ble_eq_true rfl)) ?_ | refine ⟨_, lv0, ?_⟩ | refine xT lv1 (fitk (Nat.le_of_ble_eq_true rfl)) ?_ | refine ⟨_, lv1, ?_⟩ | refine xT lv2 (fitk (Nat.le_of_ble_eq_true rfl)) ?_ | refine ⟨_, lv2, ?_⟩ | refine xT lv3 (fitk (Nat.le_of_ble_eq_true rfl)) ?_ | refine ⟨_, lv3, ?_⟩ | refine xT lv4 (fitk (Nat.le_of_ble_eq_true rfl)) ?_ | refine ⟨_, lv4, ?_⟩ | refine xT lv5 (fitk (Nat.le_of_ble_eq_true rfl)) ?_ | refine ⟨_, lv5, ?_⟩ | refine xT rfl (fitk (Nat.le_of_ble_eq_true rfl)) ?_ | refine x3 rfl rfl rfl ?_ | refine x2 rfl rfl ?_ | refine x2L rfl rfl ?_ | refine Exists.intro _ (Exists.intro _ (And.intro rfl (And.intro rfl ?_))) | refine Exists.intro _ (And.intro rfl ?_))))
local macro_rules | `(tactic| ac_rfl) => `(tactic| (repeat (first | refine w_seq ?_ | refine w_set ?_ | refine w_rt ?_ | refine w_drop ?_ | refine w_frz ?_ | refine w_multi ?_ | refine w_mcons ?_ | refine w_mnil ?_ | refine w_asg ?_ | refine w_hval ?_ | refine w_var rfl ?_ | refine w_c ?_ | refine w_hslot rfl ?_ | refine w_acons ?_ | refine w_anil ?_ | refine w_op ?_ | refine w_un ?_ | refine w_fn ?_ | refine w_tup ?_ | refine w_lst ?_ | refine w_avals ?_ | refine w_alooks ?_ | refine w_callK ?_ | refine w_cut ?_ | refine w_pint ?_ | refine w_pno ?_ | refine w_bof ?_ | refine w_nx ?_ | refine w_ret ?_ | refine w_fld ?_ | refine w_meth ?_ | refine w_make ?_ | refine w_fldS ?_ | refine w_share ?_ | refine w_shareD ?_ | refine w_putD ?_ | refine w_mutO ?_ | refine w_asgL ?_ | refine w_bnot ?_ | refine w_btru ?_ | refine xT lv0 (fitk (Nat.le_of_ble_eq_true rfl)) ?_ | refine ⟨_, lv0, ?_⟩ | refine xT lv1 (fitk (Nat.le_of_ble_eq_true rfl)) ?_ | refine ⟨_, lv1, ?_⟩ | refine xT lv2 (fitk (Nat.le_of_ble_eq_true rfl)) ?_ | refine ⟨_, lv2, ?_⟩ | refine xT lv3 (fitk (Nat.le_of_ble_eq_true rfl)) ?_ | refine ⟨_, lv3, ?_⟩ | refine xT lv4 (fitk (Nat.le_of_ble_eq_true rfl)) ?_ | refine ⟨_, lv4, ?_⟩ | refine xT lv5 (fitk (Nat.le_of_ble_eq_true rfl)) ?_ | refine ⟨_, lv5, ?_⟩ | refine xT rfl (fitk (Nat.le_of_ble_eq_true rfl)) ?_ | refine x3 rfl rfl rfl ?_ | refine x2 rfl rfl ?_ | refine Exists.intro _ (And.intro rfl ?_))))
theorem ia {st r : Sto} {c : Nat} {fs : List (Str × D)} {sl : List (Option D)} : insAt c (.obj st.length) ⟨sl, st ++ .ins c fs :: r⟩ = some (st.length, fs) := by
  unfold insAt
  simp
theorem sa0 {st r : Sto} {o x : O} : (st ++ o :: r).set st.length x = st ++ x :: r := by simp
abbrev WS (st : Sto) (l : Ld) (dn : List D) : Sto := st ++ [.ins 0 (wfs (st.length + 1) (st.length + 2)), .lst dn, .dic (dcI D.int l)]
theorem ws_wr {st : Sto} {l : Ld} {dn : List D} : Wr (WS st l dn) st.length (st.length + 1) (st.length + 2) l dn := ⟨by simp, by simp, by simp⟩
theorem ws_set {st : Sto} {l l2 : Ld} {dn dn2 : List D} : ((WS st l dn).set (st.length + 2) (.dic (dcI D.int l2))).set (st.length + 1) (.lst dn2) = WS st l2 dn2 := by simp
theorem winit_ok {st : Sto} : FS fn_World____init__ [.obj st.length, .tup []] (st ++ [.ins 0 []]) fun d st' => d = .non /\ st' = WS st [] [] := by
  refine fs_run ?_
  unfold d_World____init__
  refine w_seq (w_fldS (w_share (w_lst (w_anil ?_))))
  refine xT lv0 (fitk (by simp)) ?_
  refine ⟨_, rfl, ?_⟩
  simp only [List.length_append, List.length_singleton, List.append_assoc, List.cons_append, List.nil_append]
  refine w_var rfl ?_
  refine ⟨_, _, ia, by simp, ?_⟩
  rw [sa0]
  refine w_seq (w_fldS (w_shareD (w_c ?_)))
  refine ⟨_, rfl, ?_⟩
  simp only [List.length_append, List.length_cons, List.length_nil, List.append_assoc, List.cons_append, List.nil_append]
  refine w_var rfl ?_
  refine ⟨_, _, ia, Nat.le_of_ble_eq_true rfl, ?_⟩
  rw [sa0]
  refine w_for (fun _ _ m => m = ⟨[some (.obj st.length), some (.tup []), none, none], st ++ [.ins 0 (wfs (st.length + 1) (st.length + 2)), .lst [], .dic []]⟩) ?_
  refine w_iseq (w_var rfl ⟨[], .inr rfl, rfl, ?_, ?_⟩)
  · intro done d rest m2 he
    simp at he
  · rintro m2 rfl
    first | exact ⟨rfl, rfl⟩ | exact ⟨trivial, rfl⟩
theorem flats_app {xs : List D} : ∀ {ys : List D}, flats xs = true -> flats ys = true -> flats (xs ++ ys) = true := by
  induction xs with
  | nil => intro ys _ h; exact h
  | cons x r ih =>
    intro ys h1 h2
    rw [flats, Bool.and_eq_true] at h1
    rw [List.cons_append, flats, h1.1, ih h1.2 h2]; rfl
theorem flat_WS {st0 : Sto} {l : Ld} {dn : List D} (h : st0.all flatO = true) (hd : flats dn = true) : (WS st0 l dn).all flatO = true := by
  have fl : ∀ l : Ld, flats ((dcI D.int l).map Prod.snd) = true := by
    intro l
    induction l with
    | nil => rfl
    | cons q r ih =>
      show (flat (.int q.2) && flats ((dcI D.int r).map Prod.snd)) = true
      rw [ih]; rfl
  rw [List.all_append, h]
  have := fl l
  simp only [List.map_map] at this
  simp [flatO, hd, flats, flat]
  exact this
def rowT (ws : List Str) (l : Ld) (a : List Nat) : Option Lt := match letO a with
  | some t => if isL ws l (letD t) = true then some t else none
  | none => none
def rdT (ws : List Str) : Ld -> List (List Nat) -> List Lt
  | _, [] => []
  | l, a :: r => match rowT ws l a with
    | some t => t :: rdT ws (next l (letD t)) r
    | none => []
def rows (a : List Nat) : List (List Nat) := if a = [] then [] else TL.spl [10] 0 [] a
theorem nl_S : ("\n" : Str) = SX.S [10] := by kernel_rfl
theorem rows_mem {a : List Nat} (hA : As a) (ha : a.length <= 90000) {r : List Nat} (h : r ∈ TL.spl [10] 0 [] a) : As r /\ r.length <= 90000 := by
  refine ⟨fun c hc => ?_, ?_⟩
  · rcases spl_mem _ _ _ _ r h c hc with z | z
    · cases z
    · exact hA c z
  · have := spl_sum _ _ _ _ r h
    simp at this
    omega
theorem rows_mem' {a : List Nat} (hA : As a) (ha : a.length <= 90000) {r : List Nat} (h : r ∈ rows a) : As r /\ r.length <= 90000 := by
  unfold rows at h
  split at h
  · cases h
  · exact rows_mem hA ha h
theorem log_ok {i : Int} (h0 : 0 <= i) (h1 : i < 1000000000) : i.natAbs.log2 < 1920 := by
  by_cases h : i.natAbs = 0
  · rw [h]
    decide
  · rw [Nat.log2_lt h]
    exact Nat.lt_of_lt_of_le (m := 2 ^ 30) (by show i.natAbs < 1073741824; omega) (Nat.pow_le_pow_right (by decide) (by decide))
theorem letO_form {a : List Nat} {t : Lt} (h : letO a = some t) : Lok t := by
  unfold letO rowO at h
  split at h
  · next p x y hr =>
    split at h
    · next hn =>
      cases h
      split at hr
      · cases hr
      · next p' q hp =>
        obtain ⟨xy, h2, h3⟩ := Option.map_eq_some_iff.mp hr
        cases h3
        obtain ⟨a1, b1, _, n1, n2⟩ := two_some (x := xy.1) (y := xy.2) h2
        refine ⟨name_low ?_, numO_b n1, numO_b n2⟩
        rcases hn with z | z
        · exact .inr z
        · exact .inl z
    · cases h
  · cases h
def resX (ws : List Str) (a : List Nat) : Xr := if (rdT ws [] (rows a)).length = (rows a).length then .inl (.tup ((rdT ws [] (rows a)).map letD)) else .inr (103, [("row", .int ((rdT ws [] (rows a)).length : Nat))])
theorem drop_at {α : Type} {l : List α} {k : Nat} {x : α} (h : l[k]? = some x) : l.drop k = x :: l.drop (k + 1) := by
  obtain ⟨h1, h2⟩ := List.getElem?_eq_some_iff.mp h
  rw [List.drop_eq_getElem_cons h1, h2]
theorem rhist_ok {ws : List Str} (hw : ∀ x ∈ ws, lowS x = true) {a : List Nat} (hA : As a) (ha : a.length <= 90000) (hr : (rows a).length <= 300) {st : Sto} (hf : st.all flatO = true) :
    FSX fnX_read_history [wsD ws, .str (SX.S a)] st fun r st' => r = resX ws a /\ ∃ e, st' = st ++ e /\ st'.all flatO = true := by
  refine fsx_run ?_
  unfold d_read_history
  refine w_seq (w_if (w_bnot (w_btru (w_hval (w_un (w_hval (w_var rfl ?_)))))))
  refine x2 rfl rfl ⟨_, _, rfl, rfl, (fun z => nomatch z), fun _ => ?_⟩
  refine w_nx ?_
  refine w_seq (w_multi (w_mcons (w_lst (w_anil ?_))))
  refine xT lv0 (fitk (by simp)) ?_
  refine w_mcons (w_make ?_)
  refine w_avals (w_anil ⟨_, lv0, w_avals (w_anil ⟨_, lv0, ?_⟩)⟩)
  refine winit_ok.mono ?_
  rintro d st' ⟨rfl, rfl⟩
  refine ⟨rfl, ?_⟩
  refine w_mnil ⟨rfl, ?_⟩
  show W _ ⟨[some (wsD ws), some (.str (SX.S a)), some (.lst []), some (.obj st.length), none, none, none], WS st [] []⟩ _
  have hsrc : W (eIf (bTru (hVal (eVar 1))) (eSplit (eVar 1) (eC (.str "\n"))) (eLst aNil)) ⟨[some (wsD ws), some (.str (SX.S a)), some (.lst []), some (.obj st.length), none, none, none], WS st [] []⟩ (fun d m => d = .lst ((rows a).map fun r => .str (SX.S r)) /\ m = ⟨[some (wsD ws), some (.str (SX.S a)), some (.lst []), some (.obj st.length), none, none, none], WS st [] []⟩) := by
    have ht : gTru (.str (SX.S a)) = some (((a.length : Nat) : Int) != 0) := by
      show (if fitL (SX.S a).length then some (((SX.S a).length : Int) != 0) else none) = _
      rw [SX.S_len, if_pos (fitk (by omega))]
    refine w_eif (w_btru (w_hval (w_var rfl ⟨_, _, rfl, ht, fun h => ?_, fun h => ?_⟩)))
    · refine w_split (w_var rfl ⟨_, rfl, w_c ⟨_, rfl, ?_, ?_, rfl⟩⟩)
      · rw [nl_S, SX.S_len, SX.S_len, fitk (by omega)]
        rfl
      · rw [nl_S, split1 (by decide), map_S]
        unfold rows
        rw [if_neg]
        rintro rfl
        simp at h
    · refine w_lst (w_anil ?_)
      refine xT lv0 (fitk (by simp)) ⟨?_, rfl⟩
      have : a = [] := by
        cases a with
        | nil => rfl
        | cons c r =>
          simp at h
          omega
      unfold rows
      rw [if_pos this]
      rfl
  refine w_seq (w_for (fun _ done m => ∃ (ls : List Lt) (l : Ld) (dn : List D) (a4 a5 a6 : Option D), m = ⟨[some (wsD ws), some (.str (SX.S a)), some (.lst (ls.map letD)), some (.obj st.length), a4, a5, a6], WS st l dn⟩ /\ rdT ws [] (rows a) = ls ++ rdT ws l ((rows a).drop done.length) /\ ls.length = done.length /\ GL l /\ l.length <= done.length /\ dn.length <= done.length /\ flats dn = true) ?_)
  refine w_ienum (w_acons (w_hval (hsrc.mono ?_)))
  rintro d m ⟨rfl, rfl⟩
  refine w_anil ⟨_, .inl rfl, ⟨[], [], [], none, none, none, rfl, by simp, rfl, GL.nil, by simp, by simp, rfl⟩, ?_, ?_⟩
  · rintro done d rest m2 he ⟨ls, l, dn, a4, a5, a6, rfl, hh, hll, g, hl, hdl, hdf⟩
    obtain ⟨row, hrow, rfl⟩ := enum_at (xs := rows a) (enc := fun r => .str (SX.S r)) he
    have hlt := (List.getElem?_eq_some_iff.mp hrow).1
    obtain ⟨rA, rl⟩ := rows_mem' hA ha (List.mem_of_getElem? hrow)
    rw [drop_at hrow] at hh
    refine ⟨_, rfl, ?_⟩
    refine w_seq (w_set (w_callK (w_avals (w_acons (w_hval (w_var rfl (w_anil ⟨_, lv1, w_avals (w_anil ⟨_, lv0, ?_⟩)⟩)))))))
    refine (letter_read rA rl).mono ?_
    rintro r st2 ⟨rfl, rfl⟩
    show W _ ⟨[some (wsD ws), some (.str (SX.S a)), some (.lst (ls.map letD)), some (.obj st.length), some (.int (done.length : Nat)), some (.str (SX.S row)), some (letR row)], WS st l dn⟩ _
    have bad : rowT ws l row = none -> (resX ws a = .inr (103, [("row", .int (done.length : Nat))])) := fun h => by
      have e : rdT ws [] (rows a) = ls := by
        rw [hh]
        show ls ++ (match rowT ws l row with | some t => t :: rdT ws (next l (letD t)) ((rows a).drop (done.length + 1)) | none => []) = ls
        rw [h]
        exact List.append_nil _
      unfold resX
      rw [e, if_neg (by omega), hll]
    have raise : rowT ws l row = none -> ∀ a6, W (sRaiseI 103 "row" (aVals (aCons (hVal (eVar 4)) (aNil)))) ⟨[some (wsD ws), some (.str (SX.S a)), some (.lst (ls.map letD)), some (.obj st.length), some (.int (done.length : Nat)), some (.str (SX.S row)), a6], WS st l dn⟩ (fun fl m => fl = .xc 103 [("row", .int (done.length : Nat))] /\ m.st = WS st l dn) := fun h a6 => by
      refine w_raiseI (w_avals (w_acons (w_hval (w_var rfl (w_anil ⟨_, lv1, _, rfl, log_ok (by omega) (by omega), rfl, rfl⟩)))))
    cases hlo : letO row with
    | none =>
      have hn : rowT ws l row = none := by unfold rowT; rw [hlo]
      have hR : letR row = .non := by unfold letR; rw [hlo]
      rw [hR]
      refine w_seq (w_if (w_bor (w_bof (w_op (w_hval (w_var rfl (w_hval (w_c ?_))))))))
      refine x3 rfl rfl (d := .bl true) rfl ⟨_, rfl, fun _ => ⟨fun _ => ?_, (fun z => nomatch z)⟩, (fun z => nomatch z)⟩
      refine (raise hn _).mono ?_
      rintro fl m ⟨rfl, e⟩
      exact ⟨(bad hn).symm, _, e, by rw [e]; exact flat_WS hf hdf⟩
    | some t =>
      have hR : letR row = letD t := by unfold letR; rw [hlo]
      have hok := letO_form hlo
      rw [hR]
      refine w_seq (w_if (w_bor (w_bof (w_op (w_hval (w_var rfl (w_hval (w_c ?_))))))))
      refine x3 rfl rfl (d := .bl false) rfl ⟨_, rfl, (fun z => nomatch z), fun _ => ?_⟩
      refine w_bnot (w_btru (w_hval (w_callK (w_avals (w_acons (w_hval (w_var rfl (w_acons (w_hval (w_var rfl (w_acons (w_hval (w_var rfl (w_anil ⟨_, lv3, w_avals (w_anil ⟨_, lv0, ?_⟩)⟩))))))))))))))
      refine (letter_in_ok ws_wr g hw (okI_l hok.1)).mono ?_
      rintro b st2 ⟨rfl, rfl⟩
      cases hL : isL ws l (letD t)
      · have hn : rowT ws l row = none := by unfold rowT; rw [hlo]; simp only [hL]; rfl
        refine ⟨_, _, rfl, rfl, fun _ => ?_, (fun z => nomatch z)⟩
        refine (raise hn _).mono ?_
        rintro fl m ⟨rfl, e⟩
        exact ⟨(bad hn).symm, _, e, by rw [e]; exact flat_WS hf hdf⟩
      · have hs : rowT ws l row = some t := by unfold rowT; rw [hlo]; simp only [hL]; rfl
        have hnx : rdT ws [] (rows a) = (ls ++ [t]) ++ rdT ws (next l (letD t)) ((rows a).drop (done.length + 1)) := by
          rw [hh]
          show ls ++ (match rowT ws l row with | some t => t :: rdT ws (next l (letD t)) ((rows a).drop (done.length + 1)) | none => []) = _
          rw [hs]
          simp
        refine ⟨_, _, rfl, rfl, (fun z => nomatch z), fun _ => ?_⟩
        refine w_nx ?_
        obtain ⟨w', x', y', e, x0, y0, hj, _⟩ := isL_form hL
        obtain ⟨w, x, y⟩ := t
        cases e
        have fin : ∀ (l2 : Ld) (dn2 : List D), next l (letD (w, x, y)) = l2 -> GL l2 -> l2.length <= done.length + 1 -> dn2.length <= done.length + 1 -> flats dn2 = true ->
            W (sDrop (eMut 2 gAppend (aVals (aCons (hVal (eVar 6)) (aNil))))) ⟨[some (wsD ws), some (.str (SX.S a)), some (.lst (ls.map letD)), some (.obj st.length), some (.int (done.length : Nat)), some (.str (SX.S row)), some (letD (w, x, y))], WS st l2 dn2⟩
              (fun fl m => fl = .nx /\ ∃ (ls : List Lt) (l : Ld) (dn : List D) (a4 a5 a6 : Option D), m = ⟨[some (wsD ws), some (.str (SX.S a)), some (.lst (ls.map letD)), some (.obj st.length), a4, a5, a6], WS st l dn⟩ /\ rdT ws [] (rows a) = ls ++ rdT ws l ((rows a).drop (done.length + 1)) /\ ls.length = done.length + 1 /\ GL l /\ l.length <= done.length + 1 /\ dn.length <= done.length + 1 /\ flats dn = true) := by
          intro l2 dn2 e1 e2 e3 e4 e5
          refine w_drop (w_mut rfl ?_)
          refine w_avals (w_acons (w_hval (w_var rfl (w_anil ?_))))
          refine ⟨_, lv1, ?_⟩
          refine ⟨_, _, _, rfl, append_ok (by rw [List.length_map]; omega), ?_⟩
          refine ⟨rfl, ls ++ [(w, x, y)], l2, dn2, some (.int (done.length : Nat)), some (.str (SX.S row)), some (letD (w, x, y)), ?_, by rw [hnx, e1], by simp [hll], e2, e3, e4, e5⟩
          rw [List.map_append]
          rfl
        refine w_seq (w_if (w_bof (w_op (w_hval (w_op (w_hval (w_var rfl (w_hval (w_c ?_)))))))))
        refine x3 rfl rfl (d := .str w) rfl ?_
        refine w_hval (w_c ?_)
        refine x3 rfl rfl (eq_join hok.1) ⟨_, rfl, fun hb => ?_, fun hb => ?_⟩
        · have hb := of_decide_eq_true hb
          obtain ⟨j1, j2, j3⟩ := hj hb
          refine w_drop (w_meth (w_var rfl ?_))
          refine ⟨_, _, ws_wr.at, lk_join, ?_⟩
          bv_omega
          refine (wjoin_ok ws_wr (by omega) (by omega) g x0 j1 j2 j3 (by omega) (by omega)).mono ?_
          rintro d st' ⟨rfl, rfl⟩
          rw [ws_set]
          refine (fin (l ++ [(y, x)]) _ (if_pos hb) (g.more x0 j1 j3 (by omega)) (by simp; omega) (by simp; omega) (flats_app hdf (by simp [flats, flat]))).mono ?_
          rintro fl m ⟨rfl, q⟩
          rw [List.length_append, List.length_singleton]
          exact q
        · have hb := of_decide_eq_false hb
          refine w_nx ?_
          refine (fin l dn (if_neg hb) g (by omega) (by omega) hdf).mono ?_
          rintro fl m ⟨rfl, q⟩
          rw [List.length_append, List.length_singleton]
          exact q
  · rintro m2 ⟨ls, l, dn, a4, a5, a6, rfl, hh, hll, g, hl, hdl, hdf⟩
    rw [enum_len] at hll
    rw [enum_len, List.drop_length] at hh
    have e : rdT ws [] (rows a) = ls := by
      rw [hh]
      exact List.append_nil _
    refine w_frz ?_
    refine w_rt (w_fn (w_acons (w_hval (w_var rfl (w_anil ?_)))))
    refine x2L rfl rfl ⟨?_, _, rfl, flat_WS hf hdf⟩
    unfold resX
    rw [e, if_pos hll]
end Lk77
namespace Lk77
open PySem PySem.Spec L2 MI
set_option hygiene false
local macro_rules | `(tactic| bv_omega) => `(tactic| (repeat (first | refine w_seq ?_ | refine w_set ?_ | refine w_rt ?_ | refine w_drop ?_ | refine w_frz ?_ | refine w_multi ?_ | refine w_mcons ?_ | refine w_mnil ?_ | refine w_asg ?_ | refine w_hval ?_ | refine w_var rfl ?_ | refine w_c ?_ | refine w_hslot rfl ?_ | refine w_acons ?_ | refine w_anil ?_ | refine w_op ?_ | refine w_un ?_ | refine w_fn ?_ | refine w_tup ?_ | refine w_lst ?_ | refine w_avals ?_ | refine w_alooks ?_ | refine w_callK ?_ | refine w_cut ?_ | refine w_pint ?_ | refine w_pno ?_ | refine w_bof ?_ | refine w_nx ?_ | refine w_ret ?_ | refine w_fld ?_ | refine w_meth ?_ | refine w_make ?_ | refine w_fldS ?_ | refine w_share ?_ | refine w_shareD ?_ | refine w_putD ?_ | refine w_mutO ?_ | refine w_asgL ?_ | refine w_bnot ?_ | refine w_btru ?_ | refine xT lv0 (fitk (Nat.le_of_ble_eq_true rfl)) ?_ | refine ⟨_, lv0, ?_⟩ | refine xT lv1 (fitk (Nat.le_of_ble_eq_true rfl)) ?_ | refine ⟨_, lv1, ?_⟩ | refine xT lv2 (fitk (Nat.le_of_ble_eq_true rfl)) ?_ | refine ⟨_, lv2, ?_⟩ | refine xT lv3 (fitk (Nat.le_of_ble_eq_true rfl)) ?_ | refine ⟨_, lv3, ?_⟩ | refine xT lv4 (fitk (Nat.le_of_ble_eq_true rfl)) ?_ | refine ⟨_, lv4, ?_⟩ | refine xT lv5 (fitk (Nat.le_of_ble_eq_true rfl)) ?_ | refine ⟨_, lv5, ?_⟩ | refine xT rfl (fitk (Nat.le_of_ble_eq_true rfl)) ?_ | refine x3 rfl rfl rfl ?_ | refine x2 rfl rfl ?_ | refine x2L rfl rfl ?_ | refine Exists.intro _ (Exists.intro _ (And.intro rfl (And.intro rfl ?_))) | refine Exists.intro _ (And.intro rfl ?_))))
local macro_rules | `(tactic| ac_rfl) => `(tactic| (repeat (first | refine w_seq ?_ | refine w_set ?_ | refine w_rt ?_ | refine w_drop ?_ | refine w_frz ?_ | refine w_multi ?_ | refine w_mcons ?_ | refine w_mnil ?_ | refine w_asg ?_ | refine w_hval ?_ | refine w_var rfl ?_ | refine w_c ?_ | refine w_hslot rfl ?_ | refine w_acons ?_ | refine w_anil ?_ | refine w_op ?_ | refine w_un ?_ | refine w_fn ?_ | refine w_tup ?_ | refine w_lst ?_ | refine w_avals ?_ | refine w_alooks ?_ | refine w_callK ?_ | refine w_cut ?_ | refine w_pint ?_ | refine w_pno ?_ | refine w_bof ?_ | refine w_nx ?_ | refine w_ret ?_ | refine w_fld ?_ | refine w_meth ?_ | refine w_make ?_ | refine w_fldS ?_ | refine w_share ?_ | refine w_shareD ?_ | refine w_putD ?_ | refine w_mutO ?_ | refine w_asgL ?_ | refine w_bnot ?_ | refine w_btru ?_ | refine xT lv0 (fitk (Nat.le_of_ble_eq_true rfl)) ?_ | refine ⟨_, lv0, ?_⟩ | refine xT lv1 (fitk (Nat.le_of_ble_eq_true rfl)) ?_ | refine ⟨_, lv1, ?_⟩ | refine xT lv2 (fitk (Nat.le_of_ble_eq_true rfl)) ?_ | refine ⟨_, lv2, ?_⟩ | refine xT lv3 (fitk (Nat.le_of_ble_eq_true rfl)) ?_ | refine ⟨_, lv3, ?_⟩ | refine xT lv4 (fitk (Nat.le_of_ble_eq_true rfl)) ?_ | refine ⟨_, lv4, ?_⟩ | refine xT lv5 (fitk (Nat.le_of_ble_eq_true rfl)) ?_ | refine ⟨_, lv5, ?_⟩ | refine xT rfl (fitk (Nat.le_of_ble_eq_true rfl)) ?_ | refine x3 rfl rfl rfl ?_ | refine x2 rfl rfl ?_ | refine Exists.intro _ (And.intro rfl ?_))))
theorem ix0L {x : D} {xs : List D} : gIxA (.lst (x :: xs)) (.int 0) = some x := by
  rw [MI.ix_lst (by omega) (by rw [List.length_cons]; omega)]
  rfl
theorem cut1L {x : D} {xs : List D} : gCut (.lst (x :: xs)) (some 1) none = some (.lst xs) := by
  have e : HT.sIx (x :: xs).length 0 (some 1) = 1 := by
    simp [HT.sIx]
    try omega
  have e2 : HT.sIx (x :: xs).length (x :: xs).length none = xs.length + 1 := by simp [HT.sIx]
  show some (D.lst (cutD (x :: xs) (some 1) none)) = _
  unfold cutD
  rw [e, e2]
  simp
theorem cutFrom {a : List Nat} (ha : a.length <= 100000) {i : Int} (h : 0 <= i) : gCut (.str (SX.S a)) (some i) none = some (.str (SX.S (a.drop i.toNat))) := by
  show (if fitL (SX.S a).length then some (D.str (cutS (SX.S a) (some i) none)) else none) = _
  rw [SX.S_len, if_pos (fitk ha), C8.cutS_slice, SX.slice_from h]
theorem cutTo {a : List Nat} (ha : a.length <= 100000) {i : Int} (h : 0 <= i) : gCut (.str (SX.S a)) none (some i) = some (.str (SX.S (a.take i.toNat))) := by
  show (if fitL (SX.S a).length then some (D.str (cutS (SX.S a) none (some i))) else none) = _
  rw [SX.S_len, if_pos (fitk ha), C8.cutS_slice, SX.slice_to h]
def Nms (ws : List Str) : Prop := ∀ x ∈ ws, ∃ p : List Nat, x = SX.S p /\ nameB p = true
theorem as_name {p : List Nat} (h : nameB p = true) : As p := fun c hc => by
  unfold nameB at h
  rw [Bool.and_eq_true, Bool.and_eq_true, Bool.and_eq_true] at h
  have := List.all_eq_true.mp h.2.2.2 c hc
  unfold isLow at this
  rw [Bool.and_eq_true, decide_eq_true_eq, decide_eq_true_eq] at this
  omega
theorem toPys_S : ∀ {qs : List (List Nat)}, toPys (qs.map fun q => D.str (SX.S q)) = some (qs.map fun q => PyData.str (SX.S q))
  | [] => by rw [List.map_nil, toPys]; rfl
  | q :: qs => by
    rw [List.map_cons, toPys, toPys_S (qs := qs), toPy]
    rfl
theorem ws_names : ∀ {ws : List Str}, Nms ws -> ∃ qs : List (List Nat), ws = qs.map SX.S /\ ∀ q ∈ qs, nameB q = true
  | [], _ => ⟨[], rfl, by simp⟩
  | x :: ws, h => by
    obtain ⟨p, e, hp⟩ := h x (List.mem_cons_self ..)
    obtain ⟨qs, e2, hq⟩ := ws_names (ws := ws) fun y hy => h y (List.mem_cons_of_mem _ hy)
    exact ⟨p :: qs, by rw [e, e2]; rfl, fun q hq2 => by
      rcases List.mem_cons.mp hq2 with rfl | z
      · exact hp
      · exact hq q z⟩
theorem notin_ws {ws : List Str} (h : Nms ws) (hw : ∀ x ∈ ws, lowS x = true) {p : List Nat} (hp : As p) : gNotInA (.str (SX.S p)) (wsD ws) = some (.bl (!decide (SX.S p ∈ ws))) := by
  obtain ⟨qs, rfl, hq⟩ := ws_names h
  obtain ⟨b, hb⟩ : ∃ b, RN 1 b (wsD (qs.map SX.S)) := Kd.tup (n := 0) fun d hd => by
    obtain ⟨x, hx, rfl⟩ := List.mem_map.mp hd
    exact Kd.str (hw x hx)
  obtain ⟨q, e2, f2⟩ := hb.rd.okE
  have f3 : q = .tuple (qs.map fun q => PyData.str (SX.S q)) := by
    have : toPy (wsD (qs.map SX.S)) = some (.tuple (qs.map fun q => PyData.str (SX.S q))) := by
      show toPy (.tup ((qs.map SX.S).map D.str)) = _
      rw [map_S, toPy, toPys_S]
      rfl
    rw [f2] at this
    exact Option.some.inj this
  subst f3
  show gNotInD _ _ = _
  unfold gNotInD
  have e : gIn (.str (SX.S p)) (wsD (qs.map SX.S)) = some ((qs.map fun q => PyData.str (SX.S q)).any fun z => PyData.eqv z (.str (SX.S p))) := by
    unfold gIn
    simp only [okE_S hp, e2]
  rw [e]
  show some (D.bl _) = _
  congr 3
  rw [Bool.eq_iff_iff, List.any_eq_true, decide_eq_true_eq, List.mem_map]
  constructor
  · rintro ⟨z, hz, e⟩
    obtain ⟨q, hq, rfl⟩ := List.mem_map.mp hz
    rw [eqv_S, decide_eq_true_eq] at e
    exact ⟨q, hq, by rw [e]⟩
  · rintro ⟨q, hq, e⟩
    refine ⟨_, List.mem_map.mpr ⟨q, hq, rfl⟩, ?_⟩
    rw [eqv_S, decide_eq_true_eq]
    exact SX.S_inj e
def figL (p : List Nat) (R : List (List Nat)) (row : List Nat) : List (List Nat) := if p = JN then R else TL.spl [46] 0 [] (row.drop (p.length + 1))
theorem figs_ok {m : MS} {row p : List Nat} {R : List (List Nat)} (h5 : m.sl[5]? = some (some (.str (SX.S row)))) (h6 : m.sl[6]? = some (some (.lst ((p :: R).map fun a => .str (SX.S a))))) (hr : row.length <= 90000) (hp : As p) (hpl : p.length <= 90000) {Q : D -> MS -> Prop}
    (q : Q (.lst ((figL p R row).map fun a => .str (SX.S a))) m) :
    W (eIf (bOf (eOp gEq (hVal (eOp gIxA (hVal (eVar 6)) (hVal (eC (.int 0))))) (hVal (eC (.str "join"))))) (eCut (hVal (eVar 6)) (pInt (eC (.int 1))) (pNo)) (eSplit (eCut (hVal (eVar 5)) (pInt (eOp gAdd (hVal (eFn gLen (aCons (hVal (eOp gIxA (hVal (eVar 6)) (hVal (eC (.int 0))))) (aNil)))) (hVal (eC (.int 1))))) (pNo)) (eC (.str ".")))) m Q := by
  refine w_eif (w_bof (w_op (w_hval (w_op (w_hval (w_var h6 (w_hval (w_c ?_))))))))
  refine x3 rfl rfl ix0L ?_
  refine w_hval (w_c ?_)
  refine x3 rfl (by rw [jn_S]; rfl) (gEq_S hp as_jn) ⟨_, rfl, fun h => ?_, fun h => ?_⟩
  · refine w_cut (w_hval (w_var h6 (w_pint (w_c ⟨_, rfl, w_pno ?_⟩))))
    refine ⟨_, _, rfl, cut1L, ?_⟩
    unfold figL at q
    rw [if_pos (of_decide_eq_true h)] at q
    exact q
  · refine w_split (w_cut (w_hval (w_var h5 (w_pint (w_op (w_hval (w_fn (w_acons (w_hval (w_op (w_hval (w_var h6 (w_hval (w_c ?_))))))))))))))
    refine x3 rfl rfl ix0L ?_
    refine w_anil ?_
    refine x2L rfl (gLen_S (by omega)) ?_
    refine w_hval (w_c ?_)
    refine x3 rfl rfl (d := .int (((p.length : Nat) : Int) + 1)) rfl ?_
    refine ⟨_, rfl, w_pno ?_⟩
    refine ⟨_, _, rfl, cutFrom (by omega) (by omega), ?_⟩
    have e : (((p.length : Nat) : Int) + 1).toNat = p.length + 1 := by omega
    rw [e]
    have hl : (row.drop (p.length + 1)).length <= 90000 := by rw [List.length_drop]; omega
    refine ⟨_, rfl, w_c ⟨_, rfl, ?_, ?_⟩⟩
    · rw [dot_S, SX.S_len, SX.S_len, fitk (by omega)]
      rfl
    rw [dot_S, split1 (by decide), map_S]
    unfold figL at q
    rw [if_neg (of_decide_eq_false h)] at q
    exact q
theorem spl_ne (S : List Nat) : ∀ (k : Nat) (acc l : List Nat), TL.spl S k acc l ≠ [] := by
  intro k acc l
  induction l generalizing k acc with
  | nil => rw [TL.spl_nil]; simp
  | cons c r ih =>
    cases k with
    | zero =>
      cases h : TL.pre S (c :: r)
      · rw [TL.spl_miss h]
        exact ih 0 _
      · rw [TL.spl_hit h]
        simp
    | succ k => exact ih k acc
def resL (ws : List Str) (R : List (List Nat)) : D := if (rdT ws [] R).length = R.length then .tup [.tup ((rdT ws [] R).map letD), .non] else .tup [.non, .int ((rdT ws [] R).length : Nat)]
abbrev mK (ws : List Str) (a : List Nat) (ls : List Lt) (l : Ld) (a4 a5 a6 a7 a8 a9 a10 : Option D) (st : Sto) : MS := ⟨[some (wsD ws), some (.str (SX.S a)), some (.lst (ls.map letD)), some (ldD l), a4, a5, a6, a7, a8, a9, a10], st⟩
theorem lread_ok {ws : List Str} (hnm : Nms ws) (hw : ∀ x ∈ ws, lowS x = true) {a : List Nat} (hA : As a) (ha : a.length <= 90000) (hr : (TL.spl [10] 0 [] a).length <= 300) {st : Sto} (hf : st.all flatO = true) :
    FS fn__law_read [wsD ws, .str (SX.S a)] st fun r st' => r = resL ws (TL.spl [10] 0 [] a) /\ st' = st := by
  have hmem : ∀ r ∈ TL.spl [10] 0 [] a, As r /\ r.length <= 90000 := fun r h => rows_mem hA ha h
  generalize hR : TL.spl [10] 0 [] a = R at hmem hr
  refine fs_run ?_
  unfold d__law_read
  refine w_seq (w_multi (w_mcons (w_lst (w_anil ?_))))
  refine xT lv0 (fitk (by simp)) ?_
  refine w_mcons (w_c (w_mnil ⟨rfl, ?_⟩))
  show W _ (mK ws a [] [] none none none none none none none st) _
  refine w_seq (w_for (fun _ done m => ∃ (ls : List Lt) (l : Ld) (a4 a5 a6 a7 a8 a9 a10 : Option D), m = mK ws a ls l a4 a5 a6 a7 a8 a9 a10 st /\ rdT ws [] R = ls ++ rdT ws l (R.drop done.length) /\ ls.length = done.length /\ GL l /\ l.length <= done.length) ?_)
  refine w_ienum (w_acons (w_hval (w_split (w_var rfl ⟨_, rfl, w_c ⟨_, rfl, ?_, ?_⟩⟩))))
  · rw [nl_S, SX.S_len, SX.S_len, fitk (by omega)]
    rfl
  rw [nl_S, split1 (by decide), map_S, hR]
  refine w_anil ⟨_, .inl rfl, ⟨[], [], none, none, none, none, none, none, none, rfl, by simp, rfl, GL.nil, by simp⟩, ?_, ?_⟩
  · rintro done d rest m2 he ⟨ls, l, a4, a5, a6, a7, a8, a9, a10, rfl, hh, hll, g, hl⟩
    obtain ⟨row, hrow, rfl⟩ := enum_at (xs := R) (enc := fun r => .str (SX.S r)) he
    have hlt := (List.getElem?_eq_some_iff.mp hrow).1
    obtain ⟨rA, rl⟩ := hmem row (List.mem_of_getElem? hrow)
    rw [drop_at hrow] at hh
    have hh2 : rdT ws [] R = ls ++ (match rowT ws l row with | some t => t :: rdT ws (next l (letD t)) (R.drop (done.length + 1)) | none => []) := hh
    clear hh
    obtain ⟨p, P, hP, hpA, hpl, hPl, hcase⟩ : ∃ p P, TL.spl [32] 0 [] row = p :: P /\ As p /\ p.length <= 90000 /\ P.length <= 90001 /\ ((P = [] /\ rowO row = none) \/ (P ≠ [] /\ ∃ q, TL.par [32] [] row = some (p, q) /\ figL p P row = TL.spl (sepL p) 0 [] q /\ As q /\ q.length <= 90000)) := by
      rcases par_cases row with ⟨h1, h2, h3⟩ | ⟨p, q, e, h1, h2, h3⟩
      · exact ⟨row, [], h3, rA, rl, by simp, .inl ⟨rfl, by unfold rowO; rw [h2]⟩⟩
      · have hl := congrArg List.length e
        rw [List.length_append, List.length_cons] at hl
        have hc := spl_count [32] 0 [] q
        refine ⟨p, _, h3, fun c hc => rA c (by rw [e]; simp [hc]), by omega, by omega, .inr ⟨spl_ne _ _ _ _, q, h2, ?_, fun c hc => rA c (by rw [e]; simp [hc]), by omega⟩⟩
        unfold figL sepL
        split
        · rfl
        · rw [e]
          have : (p ++ 32 :: q).drop (p.length + 1) = q := by
            rw [<- List.drop_drop]
            simp
          rw [this]
    refine ⟨_, rfl, ?_⟩
    refine w_seq (w_set (w_split (w_var rfl ⟨_, rfl, w_c ⟨_, rfl, ?_, ?_⟩⟩)))
    · rw [blank_S, SX.S_len, SX.S_len, fitk (by omega)]
      rfl
    rw [blank_S, split1 (by decide), map_S, hP]
    show W _ (mK ws a ls l (some (.int (done.length : Nat))) (some (.str (SX.S row))) (some (.lst ((p :: P).map fun a => .str (SX.S a)))) a7 a8 a9 a10 st) _
    refine w_seq (w_set (figs_ok rfl rfl rl hpA hpl ?_))
    have hF : ∀ z ∈ figL p P row, As z /\ z.length <= 100000 := fun z hz => by
      unfold figL at hz
      have hs : ∀ z ∈ TL.spl [32] 0 [] row, As z /\ z.length <= 100000 := fun z hz => by
        refine ⟨fun c hc => ?_, ?_⟩
        · rcases spl_mem _ _ _ _ z hz c hc with h | h
          · cases h
          · exact rA c h
        · have := spl_sum _ _ _ _ z hz
          simp at this
          omega
      split at hz
      · exact hs z (by rw [hP]; exact List.mem_cons_of_mem _ hz)
      · refine ⟨fun c hc => ?_, ?_⟩
        · rcases spl_mem _ _ _ _ z hz c hc with h | h
          · cases h
          · exact rA c (List.mem_of_mem_drop h)
        · have := spl_sum _ _ _ _ z hz
          rw [List.length_drop] at this
          simp at this
          omega
    have hFl : (figL p P row).length <= 100000 := by
      unfold figL
      split
      · omega
      · have := spl_count [46] 0 [] (row.drop (p.length + 1))
        rw [List.length_drop] at this
        omega
    generalize hG : figL p P row = F at hF hFl hcase
    show W _ (mK ws a ls l (some (.int (done.length : Nat))) (some (.str (SX.S row))) (some (.lst ((p :: P).map fun a => .str (SX.S a)))) (some (.lst (F.map fun a => .str (SX.S a)))) a8 a9 a10 st) _
    refine w_seq (w_set ?_)
    refine w_lc (fun _ dn ys m => ∃ b9 : Option D, m = mK ws a ls l (some (.int (done.length : Nat))) (some (.str (SX.S row))) (some (.lst ((p :: P).map fun a => .str (SX.S a)))) (some (.lst (F.map fun a => .str (SX.S a)))) a8 b9 a10 st /\ ys = (F.take dn.length).map numD) ?_
    refine w_iseq (w_var rfl ⟨_, .inl rfl, ⟨a9, rfl, rfl⟩, ?_, ?_⟩)
    · rintro dn d rest2 ys m2 he2 ⟨b9, rfl, rfl⟩
      obtain ⟨z, hz, rfl⟩ := map_at (xs := F) (enc := fun a => .str (SX.S a)) he2
      refine ⟨_, rfl, w_ret ⟨(fun z => nomatch z), fun _ => ?_⟩⟩
      refine w_callK (w_avals (w_acons (w_hval (w_var rfl (w_anil ⟨_, lv1, w_avals (w_anil ⟨_, lv0, ?_⟩)⟩)))))
      refine (number_ok (hF z (List.mem_of_getElem? hz)).1 (hF z (List.mem_of_getElem? hz)).2).mono ?_
      rintro r st' ⟨rfl, rfl⟩
      refine ⟨_, rfl, ?_⟩
      rw [List.length_append, List.length_singleton, List.take_add_one, hz, List.map_append]
      rfl
    rintro ys m2 ⟨b9, rfl, rfl⟩
    have e : List.take (List.map (fun a => D.str (SX.S a)) F).length F = F := by rw [List.length_map, List.take_length]
    rw [e]
    refine ⟨fitk (by rw [List.length_map]; exact hFl), ?_⟩
    show W _ (mK ws a ls l (some (.int (done.length : Nat))) (some (.str (SX.S row))) (some (.lst ((p :: P).map fun a => .str (SX.S a)))) (some (.lst (F.map fun a => .str (SX.S a)))) (some (.lst (F.map numD))) a9 a10 st) _
    have bad : rowT ws l row = none -> ∀ m : MS, m.sl[4]? = some (some (.int (done.length : Nat))) -> m.st = st -> W (sRet (eTup (aCons (hVal (eC .non)) (aCons (hVal (eVar 4)) (aNil))))) m (fun fl m => fl = .rt (resL ws R) /\ m.st = st) := fun h m h4 hs => by
      refine w_rt (w_tup (w_acons (w_hval (w_c (w_acons (w_hval (w_var h4 (w_anil ?_))))))))
      refine xT lv2 (fitk (by simp)) ⟨?_, hs⟩
      have e : rdT ws [] R = ls := by
        rw [hh2, h]
        exact List.append_nil _
      unfold resL
      rw [e, if_neg (by omega), hll]
    refine w_seq (w_if (w_bor (w_bof (w_op (w_hval (w_fn (w_acons (w_hval (w_var rfl (w_anil ?_))))))))))
    refine x2L rfl (d := .int (((p :: P).map fun a => D.str (SX.S a)).length : Nat)) rfl ?_
    refine w_hval (w_c ?_)
    rw [List.length_map]
    refine x3 rfl rfl (d := .bl (decide ((((p :: P).length : Nat) : Int) < 2))) rfl ⟨_, rfl, fun h => ⟨fun _ => ?_, (fun z => nomatch z)⟩, fun h => ?_⟩
    · have h := of_decide_eq_true h
      have hn : rowT ws l row = none := by
        rcases hcase with ⟨_, h2⟩ | ⟨h2, _⟩
        · unfold rowT letO
          rw [h2]
        · cases P with
          | nil => exact absurd rfl h2
          | cons x P =>
            simp at h
            omega
      refine (bad hn _ rfl rfl).mono ?_
      rintro fl m ⟨rfl, e⟩
      exact ⟨rfl, e⟩
    have h := of_decide_eq_false h
    obtain ⟨q, hpar, hq, qA, ql⟩ : ∃ q, TL.par [32] [] row = some (p, q) /\ F = TL.spl (sepL p) 0 [] q /\ As q /\ q.length <= 90000 := by
      rcases hcase with ⟨h2, _⟩ | ⟨_, h2⟩
      · rw [h2] at h
        simp at h
      · exact h2
    have hro : rowO row = (two F).map fun xy => (p, xy.1, xy.2) := by
      unfold rowO
      rw [hpar, hq]
    have none2 : two F = none -> rowT ws l row = none := fun h => by
      unfold rowT letO
      rw [hro, h]
      rfl
    refine w_bor (w_bof (w_op (w_hval (w_fn (w_acons (w_hval (w_var rfl (w_anil ?_))))))))
    refine x2L rfl (d := .int ((F.map numD).length : Nat)) rfl ?_
    refine w_hval (w_c ?_)
    rw [List.length_map]
    refine x3 rfl rfl (gn_int (i := (F.length : Nat)) (j := 2)) ⟨_, rfl, fun h2 => ⟨fun _ => ?_, (fun z => nomatch z)⟩, fun h2 => ?_⟩
    · refine (bad (none2 (hole_none (.inr ?_))) _ rfl rfl).mono ?_
      · intro z
        rw [z] at h2
        cases h2
      · rintro fl m ⟨rfl, e⟩
        exact ⟨rfl, e⟩
    have hl2 : F.length = 2 := by
      have : ((F.length : Nat) : Int) = 2 := by simpa using h2
      omega
    refine w_bof (w_op (w_hval (w_c (w_hval (w_var rfl ?_)))))
    refine x3 rfl rfl (non_in F) ⟨_, rfl, fun h3 => ?_, fun h3 => ?_⟩
    · refine (bad (none2 (hole_none (.inl h3))) _ rfl rfl).mono ?_
      rintro fl m ⟨rfl, e⟩
      exact ⟨rfl, e⟩
    refine w_nx ?_
    obtain ⟨x, y, h2, em⟩ := hole_two h3 hl2
    obtain ⟨f1, f2, _, n1, n2⟩ := two_some h2
    obtain ⟨x0, x1⟩ := numO_b n1
    obtain ⟨y0, y1⟩ := numO_b n2
    rw [h2] at hro
    rw [em]
    have hro : rowO row = some (p, x, y) := hro
    clear n1 n2 none2 hG
    have fin : ∀ (l2 : Ld) (b10 : Option D), rowT ws l row = some (SX.S p, x, y) -> next l (letD (SX.S p, x, y)) = l2 -> GL l2 -> l2.length <= done.length + 1 ->
        W (sDrop (eMut 2 gAppend (aVals (aCons (hVal (eOp gAdd (hVal (eTup (aCons (hVal (eOp gIxA (hVal (eVar 6)) (hVal (eC (.int 0))))) (aNil)))) (hVal (eFn gTupleA (aCons (hVal (eVar 8)) (aNil)))))) (aNil))))) (mK ws a ls l2 (some (.int (done.length : Nat))) (some (.str (SX.S row))) (some (.lst ((p :: P).map fun a => .str (SX.S a)))) (some (.lst (F.map fun a => .str (SX.S a)))) (some (.lst [.int x, .int y])) a9 b10 st)
          (fun fl m => fl = .nx /\ ∃ (ls : List Lt) (l : Ld) (a4 a5 a6 a7 a8 a9 a10 : Option D), m = mK ws a ls l a4 a5 a6 a7 a8 a9 a10 st /\ rdT ws [] R = ls ++ rdT ws l (R.drop (done.length + 1)) /\ ls.length = done.length + 1 /\ GL l /\ l.length <= done.length + 1) := by
      intro l2 b10 hs e1 e2 e3
      refine w_drop (w_mut rfl ?_)
      refine w_avals (w_acons (w_hval (w_op (w_hval (w_tup (w_acons (w_hval (w_op (w_hval (w_var rfl (w_hval (w_c ?_))))))))))))
      refine x3 rfl rfl ix0L ?_
      refine w_anil ?_
      refine xT lv1 (fitk (by simp)) ?_
      refine w_hval (w_fn (w_acons (w_hval (w_var rfl (w_anil ?_)))))
      refine x2L rfl (d := .tup [.int x, .int y]) rfl ?_
      refine x3 rfl rfl (addT_ok (by simp)) ?_
      refine w_anil ?_
      refine ⟨_, lv1, ?_⟩
      refine ⟨_, _, _, rfl, append_ok (by rw [List.length_map]; omega), ?_⟩
      refine ⟨rfl, ls ++ [(SX.S p, x, y)], l2, some (.int (done.length : Nat)), some (.str (SX.S row)), some (.lst ((p :: P).map fun a => .str (SX.S a))), some (.lst (F.map fun a => .str (SX.S a))), some (.lst [.int x, .int y]), a9, b10, ?_, ?_, by simp [hll], e2, e3⟩
      · unfold mK
        rw [List.map_append]
        rfl
      · rw [hh2, hs]
        simp only [e1, List.append_assoc, List.cons_append, List.nil_append]
    refine w_seq (w_if (w_bof (w_op (w_hval (w_op (w_hval (w_var rfl (w_hval (w_c ?_)))))))))
    refine x3 rfl rfl ix0L ?_
    refine w_hval (w_c ?_)
    refine x3 rfl (by rw [jn_S]; rfl) (gEq_S hpA as_jn) ⟨_, rfl, fun hb => ?_, fun hb => ?_⟩
    · have hb := of_decide_eq_true hb
      subst hb
      have hletO : letO row = some (SX.S JN, x, y) := by
        unfold letO
        rw [hro]
        exact if_pos (.inl rfl)
      have hrow2 : rowT ws l row = if (decide (x < y) && ((lkI x l).isNone && (lkI y l).isNone)) = true then some (SX.S JN, x, y) else none := by
        unfold rowT
        rw [hletO]
        have : isL ws l (letD (SX.S JN, x, y)) = (decide (x < y) && ((lkI x l).isNone && (lkI y l).isNone)) := by
          show (decide (0 <= x) && (decide (0 <= y) && (if SX.S JN = "join" then decide (x < y) && ((lkI x l).isNone && (lkI y l).isNone) else decide (SX.S JN ∈ ws)))) = _
          rw [if_pos jn_S.symm, decide_eq_true x0, decide_eq_true y0, Bool.true_and, Bool.true_and]
        simp only [this]
      obtain ⟨c1, d1⟩ := cal_all g x
      obtain ⟨c2, d2⟩ := cal_all g y
      refine w_seq (w_if (w_bor (w_bof (w_op (w_hval ?_)))))
      refine w_lc (fun _ dn ys m => ∃ b10 : Option D, m = mK ws a ls l (some (.int (done.length : Nat))) (some (.str (SX.S row))) (some (.lst ((JN :: P).map fun a => .str (SX.S a)))) (some (.lst (F.map fun a => .str (SX.S a)))) (some (.lst [.int x, .int y])) a9 b10 st /\ ys = ([.int c1, .int c2] : List D).take dn.length) ?_
      refine w_iseq (w_var rfl ⟨[.int x, .int y], .inl rfl, ⟨a10, rfl, rfl⟩, ?_, ?_⟩)
      · rintro dn d rest2 ys m2 he2 ⟨b10, rfl, rfl⟩
        refine ⟨_, rfl, w_ret ⟨(fun z => nomatch z), fun _ => ?_⟩⟩
        refine w_callL ?_
        match dn, he2 with
        | [], he2 =>
          simp only [List.nil_append, List.cons.injEq] at he2
          obtain ⟨rfl, _⟩ := he2
          refine w_acons (w_hslot rfl (w_acons (w_hval (w_var rfl (w_anil (w_anil ?_))))))
          refine ⟨[ldD l, .int x], [], rfl, rfl, ?_⟩
          refine (lawcal_ok g d1).mono ?_
          rintro d st2 ⟨rfl, rfl⟩
          exact ⟨rfl, hf, _, rfl, rfl⟩
        | [z], he2 =>
          simp only [List.cons_append, List.nil_append, List.cons.injEq] at he2
          obtain ⟨_, rfl, _⟩ := he2
          refine w_acons (w_hslot rfl (w_acons (w_hval (w_var rfl (w_anil (w_anil ?_))))))
          refine ⟨[ldD l, .int y], [], rfl, rfl, ?_⟩
          refine (lawcal_ok g d2).mono ?_
          rintro d st2 ⟨rfl, rfl⟩
          exact ⟨rfl, hf, _, rfl, rfl⟩
        | z :: z2 :: r, he2 =>
          have := congrArg List.length he2
          simp at this
      rintro ys m2 ⟨b10, rfl, rfl⟩
      refine ⟨fitk (by simp), ?_⟩
      show W _ (mK ws a ls l (some (.int (done.length : Nat))) (some (.str (SX.S row))) (some (.lst ((JN :: P).map fun a => .str (SX.S a)))) (some (.lst (F.map fun a => .str (SX.S a)))) (some (.lst [.int x, .int y])) a9 a10 st) _
      have hi : ∀ i : Int, 0 <= i -> i < 1000000000 -> Kd 0 (.int i) := fun i h0 h1 => by
        have := p9
        exact Kd.int (by omega) (by omega)
      have kd2 : ∀ i j : Int, 0 <= i -> i < 1000000000 -> 0 <= j -> j < 1000000000 -> Kd 1 (.lst [.int i, .int j]) := fun i j i0 i1 j0 j1 => Kd.lst fun d hd => by
        simp only [List.mem_cons, List.not_mem_nil, or_false] at hd
        rcases hd with rfl | rfl
        · exact hi _ i0 i1
        · exact hi _ j0 j1
      have q1 := d1.le g
      have q2 := d2.le g
      have q3 := d1.nn g x0
      have q4 := d2.nn g y0
      obtain ⟨c, ec, hc⟩ := kd_ne (kd2 c1 c2 q3 (by omega) q4 (by omega)) (kd2 x y x0 x1 y0 y1)
      have hroot : c = false ↔ (lkI x l = none /\ lkI y l = none) := by
        rw [hc]
        constructor
        · intro z
          injection z with z
          injection z with z1 z2
          injection z1 with z1
          injection z2 with z2 z3
          injection z2 with z2
          rw [<- z1, <- z2]
          exact ⟨d1.root, d2.root⟩
        · rintro ⟨r1, r2⟩
          rw [d1.det (.stop r1), d2.det (.stop r2)]
      refine w_hval (w_var rfl ?_)
      refine x3 rfl rfl ec ⟨_, rfl, fun h => ⟨fun _ => ?_, (fun z => nomatch z)⟩, fun h => ?_⟩
      · refine (bad ?_ _ rfl rfl).mono ?_
        · rw [hrow2, if_neg]
          intro z
          rw [Bool.and_eq_true, Bool.and_eq_true, Option.isNone_iff_eq_none, Option.isNone_iff_eq_none] at z
          have := hroot.mpr z.2
          rw [this] at h
          cases h
        · rintro fl m ⟨rfl, e⟩
          exact ⟨rfl, e⟩
      obtain ⟨r1, r2⟩ := hroot.mp h
      refine w_bof (w_op (w_hval (w_op (w_hval (w_var rfl (w_hval (w_c ?_)))))))
      refine x3 rfl rfl (d := .int x) rfl ?_
      refine w_hval (w_op (w_hval (w_var rfl (w_hval (w_c ?_)))))
      refine x3 rfl rfl (d := .int y) rfl ?_
      refine x3 rfl rfl (d := .bl (decide (x >= y))) rfl ⟨_, rfl, fun h2 => ?_, fun h2 => ?_⟩
      · refine (bad ?_ _ rfl rfl).mono ?_
        · have := of_decide_eq_true h2
          rw [hrow2, if_neg]
          intro z
          rw [Bool.and_eq_true, decide_eq_true_eq] at z
          omega
        · rintro fl m ⟨rfl, e⟩
          exact ⟨rfl, e⟩
      have h2 := of_decide_eq_false h2
      refine w_nx ?_
      have hs : rowT ws l row = some (SX.S JN, x, y) := by
        rw [hrow2, if_pos]
        rw [r1, r2, decide_eq_true (by omega)]
        rfl
      refine w_put ?_
      refine w_op (w_hval (w_var rfl (w_hval (w_c ?_))))
      refine x3 rfl rfl (d := .int x) rfl ?_
      refine ⟨_, rfl, ?_⟩
      refine w_hval (w_op (w_hval (w_var rfl (w_hval (w_c ?_)))))
      refine x3 rfl rfl (d := .int y) rfl ?_
      refine ⟨_, _, _, rfl, rfl, set_dicI r2 (by omega), ?_⟩
      refine (fin (l ++ [(y, x)]) a10 hs (show (if SX.S JN = "join" then l ++ [(y, x)] else l) = l ++ [(y, x)] from if_pos jn_S.symm) (g.more x0 (by omega) r2 (by omega)) (by simp; omega)).mono ?_
      rintro fl m ⟨rfl, q⟩
      rw [List.length_append, List.length_singleton]
      exact q
    · have hb := of_decide_eq_false hb
      have hne : SX.S p ≠ "join" := fun z => hb (SX.S_inj (z.trans jn_S))
      have hrow2 : rowT ws l row = if SX.S p ∈ ws then some (SX.S p, x, y) else none := by
        unfold rowT letO
        rw [hro]
        have hn : SX.S p ∈ ws -> nameB p = true := fun h => by
          obtain ⟨p', e, h2⟩ := hnm _ h
          rw [SX.S_inj e]
          exact h2
        have hL : isL ws l (letD (SX.S p, x, y)) = decide (SX.S p ∈ ws) := by
          show (decide (0 <= x) && (decide (0 <= y) && (if SX.S p = "join" then decide (x < y) && ((lkI x l).isNone && (lkI y l).isNone) else decide (SX.S p ∈ ws)))) = _
          rw [if_neg hne, decide_eq_true x0, decide_eq_true y0, Bool.true_and, Bool.true_and]
        by_cases hm : SX.S p ∈ ws
        · rw [if_pos hm]
          simp only [if_pos (Or.inr (hn hm) : p = JN \/ nameB p = true)]
          rw [hL, decide_eq_true hm]
          rfl
        · rw [if_neg hm]
          by_cases hc : p = JN \/ nameB p = true
          · simp only [if_pos hc]
            rw [hL, decide_eq_false hm]
            rfl
          · simp only [if_neg hc]
      refine w_if (w_bof (w_op (w_hval (w_op (w_hval (w_var rfl (w_hval (w_c ?_))))))))
      refine x3 rfl rfl ix0L ?_
      refine w_hval (w_var rfl ?_)
      refine x3 rfl rfl (notin_ws hnm hw hpA) ⟨_, rfl, fun h => ?_, fun h => ?_⟩
      · refine (bad ?_ _ rfl rfl).mono ?_
        · rw [hrow2, if_neg]
          simpa using h
        · rintro fl m ⟨rfl, e⟩
          exact ⟨rfl, e⟩
      · refine w_nx ?_
        refine (fin l a10 ?_ (show (if SX.S p = "join" then l ++ [(y, x)] else l) = l from if_neg hne) g (by omega)).mono ?_
        · rw [hrow2, if_pos]
          simpa using h
        · rintro fl m ⟨rfl, q⟩
          rw [List.length_append, List.length_singleton]
          exact q
  · rintro m2 ⟨ls, l, a4, a5, a6, a7, a8, a9, a10, rfl, hh, hll, g, hl⟩
    rw [enum_len] at hll
    rw [enum_len, List.drop_length] at hh
    have e : rdT ws [] R = ls := by
      rw [hh]
      exact List.append_nil _
    refine w_frz ?_
    refine w_rt (w_tup (w_acons (w_hval (w_fn (w_acons (w_hval (w_var rfl (w_anil ?_))))))))
    refine x2L rfl (d := .tup (ls.map letD)) rfl ?_
    refine w_acons (w_hval (w_c (w_anil ?_)))
    refine xT lv2 (fitk (by simp)) ⟨?_, rfl⟩
    unfold resL
    rw [e, if_pos hll]
end Lk77
namespace Lk77
open PySem PySem.Spec L2 MI
set_option hygiene false
local macro_rules | `(tactic| bv_omega) => `(tactic| (repeat (first | refine w_seq ?_ | refine w_set ?_ | refine w_rt ?_ | refine w_drop ?_ | refine w_frz ?_ | refine w_multi ?_ | refine w_mcons ?_ | refine w_mnil ?_ | refine w_asg ?_ | refine w_hval ?_ | refine w_var rfl ?_ | refine w_c ?_ | refine w_hslot rfl ?_ | refine w_acons ?_ | refine w_anil ?_ | refine w_op ?_ | refine w_un ?_ | refine w_fn ?_ | refine w_tup ?_ | refine w_lst ?_ | refine w_avals ?_ | refine w_alooks ?_ | refine w_callK ?_ | refine w_cut ?_ | refine w_pint ?_ | refine w_pno ?_ | refine w_bof ?_ | refine w_nx ?_ | refine w_ret ?_ | refine w_fld ?_ | refine w_meth ?_ | refine w_make ?_ | refine w_fldS ?_ | refine w_share ?_ | refine w_shareD ?_ | refine w_putD ?_ | refine w_mutO ?_ | refine w_asgL ?_ | refine w_bnot ?_ | refine w_btru ?_ | refine xT lv0 (fitk (Nat.le_of_ble_eq_true rfl)) ?_ | refine ⟨_, lv0, ?_⟩ | refine xT lv1 (fitk (Nat.le_of_ble_eq_true rfl)) ?_ | refine ⟨_, lv1, ?_⟩ | refine xT lv2 (fitk (Nat.le_of_ble_eq_true rfl)) ?_ | refine ⟨_, lv2, ?_⟩ | refine xT lv3 (fitk (Nat.le_of_ble_eq_true rfl)) ?_ | refine ⟨_, lv3, ?_⟩ | refine xT lv4 (fitk (Nat.le_of_ble_eq_true rfl)) ?_ | refine ⟨_, lv4, ?_⟩ | refine xT lv5 (fitk (Nat.le_of_ble_eq_true rfl)) ?_ | refine ⟨_, lv5, ?_⟩ | refine xT rfl (fitk (Nat.le_of_ble_eq_true rfl)) ?_ | refine x3 rfl rfl rfl ?_ | refine x2 rfl rfl ?_ | refine x2L rfl rfl ?_ | refine Exists.intro _ (Exists.intro _ (And.intro rfl (And.intro rfl ?_))) | refine Exists.intro _ (And.intro rfl ?_))))
local macro_rules | `(tactic| ac_rfl) => `(tactic| (repeat (first | refine w_seq ?_ | refine w_set ?_ | refine w_rt ?_ | refine w_drop ?_ | refine w_frz ?_ | refine w_multi ?_ | refine w_mcons ?_ | refine w_mnil ?_ | refine w_asg ?_ | refine w_hval ?_ | refine w_var rfl ?_ | refine w_c ?_ | refine w_hslot rfl ?_ | refine w_acons ?_ | refine w_anil ?_ | refine w_op ?_ | refine w_un ?_ | refine w_fn ?_ | refine w_tup ?_ | refine w_lst ?_ | refine w_avals ?_ | refine w_alooks ?_ | refine w_callK ?_ | refine w_cut ?_ | refine w_pint ?_ | refine w_pno ?_ | refine w_bof ?_ | refine w_nx ?_ | refine w_ret ?_ | refine w_fld ?_ | refine w_meth ?_ | refine w_make ?_ | refine w_fldS ?_ | refine w_share ?_ | refine w_shareD ?_ | refine w_putD ?_ | refine w_mutO ?_ | refine w_asgL ?_ | refine w_bnot ?_ | refine w_btru ?_ | refine xT lv0 (fitk (Nat.le_of_ble_eq_true rfl)) ?_ | refine ⟨_, lv0, ?_⟩ | refine xT lv1 (fitk (Nat.le_of_ble_eq_true rfl)) ?_ | refine ⟨_, lv1, ?_⟩ | refine xT lv2 (fitk (Nat.le_of_ble_eq_true rfl)) ?_ | refine ⟨_, lv2, ?_⟩ | refine xT lv3 (fitk (Nat.le_of_ble_eq_true rfl)) ?_ | refine ⟨_, lv3, ?_⟩ | refine xT lv4 (fitk (Nat.le_of_ble_eq_true rfl)) ?_ | refine ⟨_, lv4, ?_⟩ | refine xT lv5 (fitk (Nat.le_of_ble_eq_true rfl)) ?_ | refine ⟨_, lv5, ?_⟩ | refine xT rfl (fitk (Nat.le_of_ble_eq_true rfl)) ?_ | refine x3 rfl rfl rfl ?_ | refine x2 rfl rfl ?_ | refine Exists.intro _ (And.intro rfl ?_))))
abbrev nL (i : Int) : List Nat := TL.numL i.toNat
def rowL (t : Lt) : List Nat := t.1.cps.toList ++ (32 :: (nL t.2.1 ++ ((if t.1 = "join" then 32 else 46) :: nL t.2.2)))
theorem gStr_num {i : Int} (h0 : 0 <= i) (h1 : i < 1000000000) : gStrI [.int i] = some (.str (SX.S (nL i))) := by
  obtain ⟨n, rfl⟩ := Int.eq_ofNat_of_zero_le h0
  show (if ((n : Nat) : Int).natAbs.log2 < 1920 then some (D.str (toString ((n : Nat) : Int))) else none) = _
  rw [if_pos (log_ok h0 h1)]
  show some (D.str (Str.ofString (toString ((n : Nat) : Int)))) = _
  rw [SX.num_S]
  rfl
theorem nL_len {i : Int} (h1 : i < 1000000000) : (nL i).length <= 9 := TL.numL_len (by decide) (by
  have : (10 : Nat) ^ 9 = 1000000000 := by decide
  omega)
theorem nL_dig {i : Int} {c : Nat} (h : c ∈ nL i) : 48 <= c /\ c <= 57 := TL.numL_digits _ c h
theorem join_cps : ("join" : Str).cps.toList = JN := by kernel_rfl
theorem addS {a b : List Nat} (h : a.length + b.length <= 100000) : gAdd (.str (SX.S a)) (.str (SX.S b)) = some (.str (SX.S (a ++ b))) := by
  show (if fitL ((SX.S a).length + (SX.S b).length) then some (D.str (SX.S a ++ SX.S b)) else none) = _
  rw [if_pos (fitk (by rw [SX.S_len, SX.S_len]; omega)), SX.S_cat]
theorem joinb_S : ("join " : Str) = SX.S (JN ++ [32]) := by kernel_rfl
def Gd (t : Lt) : Prop := Lok t /\ ∃ p, t.1 = SX.S p /\ (p = JN \/ nameB p = true)
theorem Gd.len {t : Lt} (h : Gd t) : t.1.cps.toList.length <= 8 := by
  obtain ⟨_, p, e, hp⟩ := h
  rw [e]
  show p.length <= 8
  rcases hp with rfl | hp
  · decide
  · unfold nameB at hp
    rw [Bool.and_eq_true, Bool.and_eq_true, decide_eq_true_eq, decide_eq_true_eq] at hp
    omega
theorem S_cps (x : Str) : SX.S x.cps.toList = x := SX.S_tl x
theorem lrow_ok {t : Lt} (h : Gd t) {st : Sto} : FS fn__law_row [letD t] st fun r st' => r = .str (SX.S (rowL t)) /\ st' = st := by
  have hl := h.len
  obtain ⟨w, x, y⟩ := t
  obtain ⟨⟨hlow, ⟨x0, x1⟩, y0, y1⟩, _⟩ := h
  have hlow : lowS w = true := hlow
  have x0 : 0 <= x := x0
  have y0 : 0 <= y := y0
  have x1 : x < 1000000000 := x1
  have y1 : y < 1000000000 := y1
  have hl : w.cps.size <= 8 := by simpa using hl
  have lx : (nL x).length <= 9 := nL_len x1
  have ly : (nL y).length <= 9 := nL_len y1
  have ex : w = SX.S w.cps.toList := (S_cps w).symm
  refine fs_run ?_
  unfold d__law_row
  refine w_seq (w_if (w_bof (w_op (w_hval (w_op (w_hval (w_var rfl (w_hval (w_c ?_)))))))))
  refine x3 rfl rfl (d := .str w) rfl ?_
  refine w_hval (w_c ?_)
  refine x3 rfl rfl (eq_join hlow) ⟨_, rfl, fun hb => ?_, fun hb => ?_⟩
  · have hb := of_decide_eq_true hb
    subst hb
    refine w_rt (w_op (w_hval (w_op (w_hval (w_op (w_hval (w_c (w_hval (w_fn (w_acons (w_hval (w_op (w_hval (w_var rfl (w_hval (w_c ?_))))))))))))))))
    refine x3 rfl rfl (d := .int x) rfl ?_
    refine w_anil ?_
    refine x2L rfl (gStr_num x0 x1) ?_
    refine x3 (by rw [joinb_S]; rfl) rfl (addS (by simp [JN]; omega)) ?_
    refine w_hval (w_c ?_)
    refine x3 rfl (by rw [blank_S]; rfl) (addS (by simp [JN]; omega)) ?_
    refine w_hval (w_fn (w_acons (w_hval (w_op (w_hval (w_var rfl (w_hval (w_c ?_))))))))
    refine x3 rfl rfl (d := .int y) rfl ?_
    refine w_anil ?_
    refine x2L rfl (gStr_num y0 y1) ?_
    refine x3 rfl rfl (addS (by simp [JN]; omega)) ⟨?_, rfl⟩
    unfold rowL
    rw [join_cps, if_pos rfl]
    simp
  · have hb := of_decide_eq_false hb
    refine w_nx (w_rt (w_op (w_hval (w_op (w_hval (w_op (w_hval (w_op (w_hval (w_op (w_hval (w_var rfl (w_hval (w_c ?_))))))))))))))
    refine x3 rfl rfl (d := .str w) rfl ?_
    refine w_hval (w_c ?_)
    refine x3 (by rw [ex]; rfl) (by rw [blank_S]; rfl) (addS (by simp; omega)) ?_
    refine w_hval (w_fn (w_acons (w_hval (w_op (w_hval (w_var rfl (w_hval (w_c ?_))))))))
    refine x3 rfl rfl (d := .int x) rfl ?_
    refine w_anil ?_
    refine x2L rfl (gStr_num x0 x1) ?_
    refine x3 rfl rfl (addS (by simp; omega)) ?_
    refine w_hval (w_c ?_)
    refine x3 rfl (by rw [dot_S]; rfl) (addS (by simp; omega)) ?_
    refine w_hval (w_fn (w_acons (w_hval (w_op (w_hval (w_var rfl (w_hval (w_c ?_))))))))
    refine x3 rfl rfl (d := .int y) rfl ?_
    refine w_anil ?_
    refine x2L rfl (gStr_num y0 y1) ?_
    refine x3 rfl rfl (addS (by simp; omega)) ⟨?_, rfl⟩
    unfold rowL
    rw [if_neg hb]
    simp
theorem sletter_ok {t : Lt} (h : Gd t) {st : Sto} : FS fn_show_letter [letD t] st fun r st' => r = .str (SX.S (rowL t)) /\ st' = st := by
  have hl := h.len
  obtain ⟨w, x, y⟩ := t
  obtain ⟨⟨hlow, ⟨x0, x1⟩, y0, y1⟩, _⟩ := h
  have hlow : lowS w = true := hlow
  have x0 : 0 <= x := x0
  have y0 : 0 <= y := y0
  have x1 : x < 1000000000 := x1
  have y1 : y < 1000000000 := y1
  have hl : w.cps.size <= 8 := by simpa using hl
  have lx : (nL x).length <= 9 := nL_len x1
  have ly : (nL y).length <= 9 := nL_len y1
  have ex : w = SX.S w.cps.toList := (S_cps w).symm
  refine fs_run ?_
  unfold d_show_letter
  refine w_seq (w_asg (w_var rfl ⟨_, rfl, ?_⟩))
  show W _ ⟨[some (letD (w, x, y)), some (.str w), some (.int x), some (.int y), none], st⟩ _
  refine w_seq (w_set ?_)
  refine W.mono (Q := fun d m => d = .str (SX.S [if w = "join" then 32 else 46]) /\ m = ⟨[some (letD (w, x, y)), some (.str w), some (.int x), some (.int y), none], st⟩) ?_ ?_
  · refine w_eif (w_bof (w_op (w_hval (w_var rfl (w_hval (w_c ?_))))))
    refine x3 rfl rfl (eq_join hlow) ⟨_, rfl, fun hb => ?_, fun hb => ?_⟩
    · rw [if_pos (of_decide_eq_true hb), <- blank_S]
      exact w_c ⟨rfl, rfl⟩
    · rw [if_neg (of_decide_eq_false hb), <- dot_S]
      exact w_c ⟨rfl, rfl⟩
  rintro d m ⟨rfl, rfl⟩
  refine w_rt (w_op (w_hval (w_op (w_hval (w_op (w_hval (w_op (w_hval (w_var rfl (w_hval (w_c ?_)))))))))))
  refine x3 (by rw [ex]; rfl) (by rw [blank_S]; rfl) (addS (by simp; omega)) ?_
  refine w_hval (w_fn (w_acons (w_hval (w_var rfl (w_anil ?_)))))
  refine x2L rfl (gStr_num x0 x1) ?_
  refine x3 rfl rfl (addS (by simp; omega)) ?_
  refine w_hval (w_var rfl ?_)
  refine x3 rfl rfl (addS (by simp; omega)) ?_
  refine w_hval (w_fn (w_acons (w_hval (w_var rfl (w_anil ?_)))))
  refine x2L rfl (gStr_num y0 y1) ?_
  refine x3 rfl rfl (addS (by simp; omega)) ⟨?_, rfl⟩
  unfold rowL
  simp
theorem numL_head : ∀ n : Nat, 0 < n -> ∃ c r, TL.numL n = c :: r /\ c ≠ 48 := by
  intro n
  induction n using Nat.strongRecOn with
  | _ n ih =>
    intro h0
    by_cases h : n < 10
    · exact ⟨_, _, TL.numL_lt h, by omega⟩
    · obtain ⟨c, r, e, hc⟩ := ih (n / 10) (by omega) (by omega)
      exact ⟨c, r ++ [48 + n % 10], by rw [TL.numL_step (by omega), e]; rfl, hc⟩
theorem numO_num {i : Int} (h0 : 0 <= i) (h1 : i < 1000000000) : numO (nL i) = some i := by
  have hl := nL_len h1
  have hb : numB (nL i) = true := by
    unfold numB
    have a1 : (nL i).all isDig = true := List.all_eq_true.mpr fun c hc => by
      have := nL_dig hc
      unfold isDig
      rw [decide_eq_true this.1, decide_eq_true this.2]
      rfl
    rw [a1, decide_eq_true (List.length_pos_iff.mpr (TL.numL_ne _)), decide_eq_true (by omega), Bool.true_and, Bool.true_and, Bool.true_and, Bool.or_eq_true, decide_eq_true_eq, decide_eq_true_eq]
    by_cases h : i.toNat = 0
    · left
      show TL.numL i.toNat = [48]
      rw [h]
      exact TL.numL_lt (by decide)
    · right
      obtain ⟨c, r, e, hc⟩ := numL_head i.toNat (by omega)
      show (TL.numL i.toNat).head? ≠ some 48
      rw [e]
      intro z
      exact hc (Option.some.inj z)
  unfold numO
  rw [if_pos hb]
  show some (((NumText.digitsVal (TL.numL i.toNat) : Nat)) : Int) = some i
  rw [TL.numL_val]
  congr 1
  omega
theorem name_free {p : List Nat} (h : p = JN \/ nameB p = true) : ∀ c ∈ p, 97 <= c := by
  intro c hc
  rcases h with rfl | h
  · unfold JN at hc
    simp only [List.mem_cons, List.not_mem_nil, or_false] at hc
    omega
  · unfold nameB at h
    rw [Bool.and_eq_true, Bool.and_eq_true, Bool.and_eq_true] at h
    have := List.all_eq_true.mp h.2.2.2 c hc
    unfold isLow at this
    rw [Bool.and_eq_true, decide_eq_true_eq, decide_eq_true_eq] at this
    omega
theorem spl2 {c : Nat} {x y : Int} (hc : c < 48) : TL.spl [c] 0 [] (nL x ++ (c :: nL y)) = [nL x, nL y] := by
  have fx : c ∉ nL x := fun h => by have := nL_dig h; omega
  have fy : c ∉ nL y := fun h => by have := nL_dig h; omega
  have e1 : TL.spl [c] 0 [] (nL x ++ ([c] ++ nL y)) = nL x :: TL.spl [c] 0 [] (nL y) := SX.spl_free (sep := [c]) _ (by simp) (SX.free_head fx)
  have e2 := SX.spl_join (c := c) (sep := []) (parts := [nL y]) (by simp) (fun p hp => by rw [List.mem_singleton.mp hp]; exact fy)
  have e3 : TL.joinL [c] [nL y] = nL y := rfl
  rw [e3] at e2
  rw [e2] at e1
  exact e1
theorem letO_row {t : Lt} (h : Gd t) : letO (rowL t) = some t := by
  obtain ⟨w, x, y⟩ := t
  obtain ⟨⟨hlow, ⟨x0, x1⟩, y0, y1⟩, p, e, hp⟩ := h
  have e : w = SX.S p := e
  subst e
  have hfree : 32 ∉ p := fun z => by have := name_free hp 32 z; omega
  have hj : ((SX.S p : Str) = "join") ↔ p = JN := by
    rw [jn_S]
    exact ⟨fun z => SX.S_inj z, fun z => by rw [z]⟩
  have er : rowL (SX.S p, x, y) = p ++ ([32] ++ (nL x ++ ((if p = JN then 32 else 46) :: nL y))) := by
    unfold rowL
    show p ++ _ = _
    by_cases h : p = JN
    · rw [if_pos (hj.mpr h), if_pos h]
      rfl
    · rw [if_neg (fun z => h (hj.mp z)), if_neg h]
      rfl
  have e1 : rowO (rowL (SX.S p, x, y)) = some (p, x, y) := by
    unfold rowO
    rw [er, SX.par_head (sep := []) _ hfree]
    have e2 : TL.spl (sepL p) 0 [] (nL x ++ ((if p = JN then 32 else 46) :: nL y)) = [nL x, nL y] := by
      unfold sepL
      by_cases h : p = JN
      · rw [if_pos h, if_pos h]
        exact spl2 (by decide)
      · rw [if_neg h, if_neg h]
        exact spl2 (by decide)
    simp only [e2]
    unfold two
    simp only [List.map_cons, List.map_nil, numO_num x0 x1, numO_num y0 y1, Option.map_some]
  unfold letO
  rw [e1]
  exact if_pos hp
theorem rd_rows {ws : List Str} : ∀ {ls : List Lt} {l : Ld}, (∀ t ∈ ls, Gd t) -> isHs ws l (ls.map letD) = true -> rdT ws l (ls.map rowL) = ls
  | [], _, _, _ => rfl
  | t :: ls, l, hg, h => by
    rw [List.map_cons, isHs, Bool.and_eq_true] at h
    have e : rowT ws l (rowL t) = some t := by
      unfold rowT
      rw [letO_row (hg t (List.mem_cons_self ..))]
      exact if_pos h.1
    rw [List.map_cons, rdT, e]
    show t :: rdT ws (next l (letD t)) (ls.map rowL) = t :: ls
    rw [rd_rows (fun x hx => hg x (List.mem_cons_of_mem _ hx)) h.2]
def txt (ls : List Lt) : List Nat := TL.joinL [10] (ls.map rowL)
theorem row_facts {t : Lt} (h : Gd t) : As (rowL t) /\ (rowL t).length <= 29 /\ 10 ∉ rowL t /\ rowL t ≠ [] := by
  have hl := h.len
  obtain ⟨w, x, y⟩ := t
  obtain ⟨⟨hlow, ⟨x0, x1⟩, y0, y1⟩, p, e, hp⟩ := h
  have e : w = SX.S p := e
  subst e
  have lx : (nL x).length <= 9 := nL_len x1
  have ly : (nL y).length <= 9 := nL_len y1
  have hA : As p := by
    rcases hp with rfl | hp
    · exact as_jn
    · exact as_name hp
  have key : ∀ c ∈ rowL (SX.S p, x, y), c ∈ p \/ c = 32 \/ c = 46 \/ (48 <= c /\ c <= 57) := by
    intro c hc
    unfold rowL at hc
    rcases List.mem_append.mp hc with hc | hc
    · exact .inl hc
    rcases List.mem_cons.mp hc with hc | hc
    · exact .inr (.inl hc)
    rcases List.mem_append.mp hc with hc | hc
    · exact .inr (.inr (.inr (nL_dig hc)))
    rcases List.mem_cons.mp hc with hc | hc
    · split at hc
      · exact .inr (.inl hc)
      · exact .inr (.inr (.inl hc))
    · exact .inr (.inr (.inr (nL_dig hc)))
  refine ⟨fun c hc => ?_, ?_, fun hc => ?_, ?_⟩
  · rcases key c hc with h | h | h | h
    · exact hA c h
    · omega
    · omega
    · omega
  · unfold rowL
    show (p ++ _).length <= 29
    have hl : p.length <= 8 := hl
    simp
    omega
  · rcases key 10 hc with h | h | h | h
    · have := name_free hp 10 h
      omega
    · omega
    · omega
    · omega
  · unfold rowL
    simp
theorem joinL_facts : ∀ {ps : List (List Nat)}, (∀ p ∈ ps, As p /\ 10 ∉ p) -> As (TL.joinL [10] ps) /\ (TL.joinL [10] ps).length <= (ps.map List.length).sum + ps.length /\ (TL.joinL [10] ps).count 10 <= ps.length
  | [], _ => by
    show As [] /\ ([] : List Nat).length <= 0 + 0 /\ ([] : List Nat).count 10 <= 0
    exact ⟨fun c hc => (nomatch hc), Nat.le_refl _, Nat.le_refl _⟩
  | [p], h => by
    have := h p (List.mem_cons_self ..)
    show As p /\ p.length <= p.length + 0 + 1 /\ p.count 10 <= 1
    refine ⟨this.1, by omega, ?_⟩
    rw [List.count_eq_zero.mpr this.2]
    omega
  | p :: q :: r, h => by
    obtain ⟨i1, i2, i3⟩ := joinL_facts (ps := q :: r) fun x hx => h x (List.mem_cons_of_mem _ hx)
    have hp := h p (List.mem_cons_self ..)
    have e : TL.joinL [10] (p :: q :: r) = p ++ ([10] ++ TL.joinL [10] (q :: r)) := rfl
    rw [e]
    refine ⟨fun c hc => ?_, ?_, ?_⟩
    · rcases List.mem_append.mp hc with z | z
      · exact hp.1 c z
      · rcases List.mem_append.mp z with z | z
        · rw [List.mem_singleton.mp z]
          decide
        · exact i1 c z
    · rw [List.length_append, List.length_append, List.length_singleton, List.map_cons, List.sum_cons, List.length_cons (as := q :: r)]
      omega
    · rw [List.count_append, List.count_append, List.count_eq_zero.mpr hp.2]
      have : ([10] : List Nat).count 10 = 1 := by decide
      rw [this, List.length_cons (as := q :: r)]
      omega
theorem rows_txt {ls : List Lt} (h : ∀ t ∈ ls, Gd t) : rows (txt ls) = ls.map rowL := by
  unfold rows txt
  cases ls with
  | nil => rfl
  | cons t ls =>
    have hf : ∀ p ∈ (t :: ls).map rowL, 10 ∉ p := fun p hp => by
      obtain ⟨x, hx, rfl⟩ := List.mem_map.mp hp
      exact (row_facts (h x hx)).2.2.1
    rw [if_neg]
    · exact SX.spl_join (c := 10) (sep := []) (by simp) hf
    · intro z
      have := SX.spl_join (c := 10) (sep := []) (parts := (t :: ls).map rowL) (by simp) hf
      rw [show TL.joinL [10] ((t :: ls).map rowL) = [] from z, TL.spl_nil] at this
      have e := congrArg List.head? this
      simp only [List.map_cons, List.head?_cons, Option.some.injEq] at e
      exact (row_facts (h t (List.mem_cons_self ..))).2.2.2 e.symm
theorem sum_le {α : Type} {f : α -> Nat} {k : Nat} : ∀ {l : List α}, (∀ x ∈ l, f x <= k) -> (l.map f).sum <= k * l.length
  | [], _ => by simp
  | x :: l, h => by
    have := sum_le (l := l) fun y hy => h y (List.mem_cons_of_mem _ hy)
    have := h x (List.mem_cons_self ..)
    rw [List.map_cons, List.sum_cons, List.length_cons, Nat.mul_succ]
    omega
theorem gJoin_S {ps : List (List Nat)} (h : (ps.map List.length).sum + ps.length <= 100000) : gJoin (.str "\n") (.lst (ps.map fun p => .str (SX.S p))) = some (.str (SX.S (TL.joinL [10] ps))) := by
  have e : strs? (ps.map fun p => D.str (SX.S p)) = some (ps.map SX.S) := strs_of_S ps
  unfold gJoin
  simp only [e]
  rw [nl_S, SX.lens, SX.join_S, if_pos]
  rw [List.length_map, SX.S_len]
  have h' : (ps.map (fun x => x.length)).sum + ps.length <= 100000 := h
  have : ([10] : List Nat).length = 1 := rfl
  rw [this]
  omega
theorem lrows_ok {ls : List Lt} {n : Nat} {f : MI.Fn} (hf : ∀ t ∈ ls, ∀ st, FS f [letD t] st fun r st' => r = .str (SX.S (rowL t)) /\ st' = st) (hg : ∀ t ∈ ls, Gd t) (hl : ls.length <= 250) : (ls.map rowL |>.map List.length).sum + (ls.map rowL).length <= 8000 := by
  have := sum_le (f := List.length) (k := 29) (l := ls.map rowL) fun p hp => by
    obtain ⟨t, ht, rfl⟩ := List.mem_map.mp hp
    exact (row_facts (hg t ht)).2.1
  rw [List.length_map] at this ⊢
  omega
theorem txt_facts {ls : List Lt} (hg : ∀ t ∈ ls, Gd t) (hl : ls.length <= 200) : As (txt ls) /\ (txt ls).length <= 6000 /\ (txt ls).count 10 <= 200 := by
  obtain ⟨h1, h2, h3⟩ := joinL_facts (ps := ls.map rowL) fun p hp => by
    obtain ⟨t, ht, rfl⟩ := List.mem_map.mp hp
    exact ⟨(row_facts (hg t ht)).1, (row_facts (hg t ht)).2.2.1⟩
  have := sum_le (f := List.length) (k := 29) (l := ls.map rowL) fun p hp => by
    obtain ⟨t, ht, rfl⟩ := List.mem_map.mp hp
    exact (row_facts (hg t ht)).2.1
  rw [List.length_map] at this h2 h3
  exact ⟨h1, by show (TL.joinL [10] (ls.map rowL)).length <= 6000; omega, by show (TL.joinL [10] (ls.map rowL)).count 10 <= 200; omega⟩
theorem shist_ok {ls : List Lt} (hg : ∀ t ∈ ls, Gd t) (hl : ls.length <= 200) {st : Sto} : FS fn_show_history [.tup (ls.map letD)] st fun r st' => r = .str (SX.S (txt ls)) /\ st' = st := by
  refine fs_run ?_
  unfold d_show_history
  refine w_rt (w_join (w_c ⟨_, rfl, ?_⟩))
  refine w_lc (fun _ done ys m => ∃ a1 : Option D, m = ⟨[some (.tup (ls.map letD)), a1], st⟩ /\ ys = (ls.take done.length).map fun t => .str (SX.S (rowL t))) ?_
  refine w_iseq (w_var rfl ⟨_, .inr rfl, ⟨none, rfl, rfl⟩, ?_, ?_⟩)
  · rintro done d rest ys m2 he ⟨a1, rfl, rfl⟩
    obtain ⟨t, ht, rfl⟩ := map_at (xs := ls) (enc := letD) he
    refine ⟨_, rfl, w_ret ⟨(fun z => nomatch z), fun _ => ?_⟩⟩
    refine w_callK (w_avals (w_acons (w_hval (w_var rfl (w_anil ⟨_, lv1, w_avals (w_anil ⟨_, lv0, ?_⟩)⟩)))))
    refine (sletter_ok (hg t (List.mem_of_getElem? ht))).mono ?_
    rintro r st' ⟨rfl, rfl⟩
    refine ⟨_, rfl, ?_⟩
    rw [List.length_append, List.length_singleton, List.take_add_one, ht, List.map_append]
    rfl
  rintro ys m2 ⟨a1, rfl, rfl⟩
  have e : List.take (List.map letD ls).length ls = ls := by rw [List.length_map, List.take_length]
  rw [e]
  refine ⟨fitk (by rw [List.length_map]; omega), ?_⟩
  have em : (ls.map fun t => D.str (SX.S (rowL t))) = (ls.map rowL).map fun p => .str (SX.S p) := by rw [List.map_map]; rfl
  rw [em]
  have hs := lrows_ok (ls := ls) (n := 0) (f := fn__law_row) (fun t ht st => lrow_ok (hg t ht)) hg (by omega)
  exact ⟨_, gJoin_S (by omega), rfl, rfl⟩
end Lk77
namespace Lk77
open PySem PySem.Spec L2 MI
set_option hygiene false
local macro_rules | `(tactic| bv_omega) => `(tactic| (repeat (first | refine w_seq ?_ | refine w_set ?_ | refine w_rt ?_ | refine w_drop ?_ | refine w_frz ?_ | refine w_multi ?_ | refine w_mcons ?_ | refine w_mnil ?_ | refine w_asg ?_ | refine w_hval ?_ | refine w_var rfl ?_ | refine w_c ?_ | refine w_hslot rfl ?_ | refine w_acons ?_ | refine w_anil ?_ | refine w_op ?_ | refine w_un ?_ | refine w_fn ?_ | refine w_tup ?_ | refine w_lst ?_ | refine w_avals ?_ | refine w_alooks ?_ | refine w_callK ?_ | refine w_cut ?_ | refine w_pint ?_ | refine w_pno ?_ | refine w_bof ?_ | refine w_nx ?_ | refine w_ret ?_ | refine w_fld ?_ | refine w_meth ?_ | refine w_make ?_ | refine w_fldS ?_ | refine w_share ?_ | refine w_shareD ?_ | refine w_putD ?_ | refine w_mutO ?_ | refine w_asgL ?_ | refine w_bnot ?_ | refine w_btru ?_ | refine xT lv0 (fitk (Nat.le_of_ble_eq_true rfl)) ?_ | refine ⟨_, lv0, ?_⟩ | refine xT lv1 (fitk (Nat.le_of_ble_eq_true rfl)) ?_ | refine ⟨_, lv1, ?_⟩ | refine xT lv2 (fitk (Nat.le_of_ble_eq_true rfl)) ?_ | refine ⟨_, lv2, ?_⟩ | refine xT lv3 (fitk (Nat.le_of_ble_eq_true rfl)) ?_ | refine ⟨_, lv3, ?_⟩ | refine xT lv4 (fitk (Nat.le_of_ble_eq_true rfl)) ?_ | refine ⟨_, lv4, ?_⟩ | refine xT lv5 (fitk (Nat.le_of_ble_eq_true rfl)) ?_ | refine ⟨_, lv5, ?_⟩ | refine xT rfl (fitk (Nat.le_of_ble_eq_true rfl)) ?_ | refine x3 rfl rfl rfl ?_ | refine x2 rfl rfl ?_ | refine x2L rfl rfl ?_ | refine Exists.intro _ (Exists.intro _ (And.intro rfl (And.intro rfl ?_))) | refine Exists.intro _ (And.intro rfl ?_))))
local macro_rules | `(tactic| ac_rfl) => `(tactic| (repeat (first | refine w_seq ?_ | refine w_set ?_ | refine w_rt ?_ | refine w_drop ?_ | refine w_frz ?_ | refine w_multi ?_ | refine w_mcons ?_ | refine w_mnil ?_ | refine w_asg ?_ | refine w_hval ?_ | refine w_var rfl ?_ | refine w_c ?_ | refine w_hslot rfl ?_ | refine w_acons ?_ | refine w_anil ?_ | refine w_op ?_ | refine w_un ?_ | refine w_fn ?_ | refine w_tup ?_ | refine w_lst ?_ | refine w_avals ?_ | refine w_alooks ?_ | refine w_callK ?_ | refine w_cut ?_ | refine w_pint ?_ | refine w_pno ?_ | refine w_bof ?_ | refine w_nx ?_ | refine w_ret ?_ | refine w_fld ?_ | refine w_meth ?_ | refine w_make ?_ | refine w_fldS ?_ | refine w_share ?_ | refine w_shareD ?_ | refine w_putD ?_ | refine w_mutO ?_ | refine w_asgL ?_ | refine w_bnot ?_ | refine w_btru ?_ | refine xT lv0 (fitk (Nat.le_of_ble_eq_true rfl)) ?_ | refine ⟨_, lv0, ?_⟩ | refine xT lv1 (fitk (Nat.le_of_ble_eq_true rfl)) ?_ | refine ⟨_, lv1, ?_⟩ | refine xT lv2 (fitk (Nat.le_of_ble_eq_true rfl)) ?_ | refine ⟨_, lv2, ?_⟩ | refine xT lv3 (fitk (Nat.le_of_ble_eq_true rfl)) ?_ | refine ⟨_, lv3, ?_⟩ | refine xT lv4 (fitk (Nat.le_of_ble_eq_true rfl)) ?_ | refine ⟨_, lv4, ?_⟩ | refine xT lv5 (fitk (Nat.le_of_ble_eq_true rfl)) ?_ | refine ⟨_, lv5, ?_⟩ | refine xT rfl (fitk (Nat.le_of_ble_eq_true rfl)) ?_ | refine x3 rfl rfl rfl ?_ | refine x2 rfl rfl ?_ | refine Exists.intro _ (And.intro rfl ?_))))
theorem rd_str {x : Str} (h : lowS x = true) {n b : Nat} (hb : x.cps.size <= b) : RD n b (.str x) := (RN.str h (n := n)).rd.mono (Nat.le_refl _) hb
theorem rd_nil {n b : Nat} : RD (n + 1) b (.tup []) := (RD.tup (n := n) (b := 0) (l := 0) (ds := []) (by simp) (by simp)).mono (Nat.le_refl _) (by simp)
theorem rd_cons {n a b : Nat} {x : D} {xs : List D} (hx : RD n a x) (hs : RD (n + 1) b (.tup xs)) : RD (n + 1) (a + 1 + b) (.tup (x :: xs)) := by
  obtain ⟨p, e, h1, h2, h3⟩ := hx
  obtain ⟨q, f, g1, g2, g3⟩ := hs
  rw [toPy, Option.map_eq_some_iff] at f
  obtain ⟨ps, f, rfl⟩ := f
  rw [nic] at g1
  rw [PyData.depth] at g2
  rw [PyData.bulk] at g3
  refine ⟨.tuple (p :: ps), ?_, ?_, ?_, ?_⟩
  · rw [toPy, toPys, e, f]; rfl
  · rw [nic, nics, h1, g1]; rfl
  · rw [PyData.depth, PyData.depthAll]; omega
  · rw [PyData.bulk, PyData.bulkAll]; omega
theorem rd_int {i : Int} (h1 : -1000 < i) (h2 : i < 1000000000) {n : Nat} : RD n 0 (.int i) := by
  have : (1000000000 : Int) < 2 ^ 200 := p9
  exact RD.int (by omega) (by omega)
theorem repT {ds : List D} {n b : Nat} (h : RD n b (.tup ds)) (hn : n <= 16) (hb : b <= 8000) : gReprA [.tup ds] = some (.str (sh (.tup ds))) /\ rok (.tup ds) = true := ⟨gRepr_ok (h.rok hn hb), h.rok hn hb⟩
theorem rep_int {i : Int} (h0 : 0 <= i) (h1 : i < 1000000000) : gReprA [.int i] = some (.str (sh (.int i))) /\ rok (.int i) = true := by
  have h : RD 1 1 (.int i) := (rd_int (n := 1) (by omega) h1).mono (Nat.le_refl _) (by omega)
  exact ⟨gRepr_ok (h.rok (by omega) (by omega)), h.rok (by omega) (by omega)⟩
theorem rep_ls {ls : List Lt} (hg : ∀ t ∈ ls, Gd t) (hl : ls.length <= 300) : gReprA [.tup (ls.map letD)] = some (.str (sh (.tup (ls.map letD)))) /\ rok (.tup (ls.map letD)) = true := by
  refine repT (n := 2) (b := 12 * 300) (RD.tup (n := 1) (b := 11) (l := 300) (fun d hd => ?_) (by rw [List.length_map]; exact hl)) (by omega) (by omega)
  obtain ⟨t, ht, rfl⟩ := List.mem_map.mp hd
  have hs := (hg t ht).len
  obtain ⟨h1, h2, h3⟩ := (hg t ht).1
  refine (rd_cons (n := 0) (a := 8) (rd_str h1 (by simpa using hs)) (rd_cons (a := 0) (rd_int (by omega) h2.2) (rd_cons (a := 0) (rd_int (by omega) h3.2) (rd_nil (b := 0))))).mono (Nat.le_refl _) (by omega)
theorem letO_gd {a : List Nat} {t : Lt} (h : letO a = some t) : Gd t := by
  refine ⟨letO_form h, ?_⟩
  unfold letO at h
  split at h
  · next p x y hr =>
    split at h
    · next hn =>
      cases h
      exact ⟨p, rfl, hn⟩
    · cases h
  · cases h
theorem rdT_gd {ws : List Str} : ∀ {R : List (List Nat)} {l : Ld}, (∀ t ∈ rdT ws l R, Gd t) /\ (rdT ws l R).length <= R.length
  | [], l => ⟨fun t ht => (nomatch ht), Nat.le_refl _⟩
  | a :: R, l => by
    rw [rdT]
    cases h : rowT ws l a with
    | none => exact ⟨fun t ht => (nomatch ht), Nat.zero_le _⟩
    | some t =>
      obtain ⟨i1, i2⟩ := rdT_gd (ws := ws) (R := R) (l := next l (letD t))
      refine ⟨fun x hx => ?_, ?_⟩
      · rcases List.mem_cons.mp hx with rfl | hx
        · unfold rowT at h
          split at h
          · next t2 ht =>
            split at h
            · cases h
              exact letO_gd ht
            · cases h
          · cases h
        · exact i1 x hx
      · show (t :: rdT ws (next l (letD t)) R).length <= _
        rw [List.length_cons, List.length_cons]
        omega
theorem forget_flat {n : Nat} {s : Sto} (h : s.all flatO = true) : (s.take n ++ (s.drop n).map goneX).all flatO = true := by
  rw [List.all_eq_true] at h ⊢
  intro o ho
  rcases List.mem_append.mp ho with z | z
  · exact h o (List.mem_of_mem_take z)
  · obtain ⟨o2, h2, rfl⟩ := List.mem_map.mp z
    have := h o2 (List.mem_of_mem_drop h2)
    cases o2 <;> first | exact this | rfl
theorem rhist_odd {ws : List Str} {d : D} (h1 : gIsi .str d = some (.bl false)) (h2 : ∀ m, look (.val d) m = some d) {st : Sto} : FSX fnX_read_history [wsD ws, d] st fun r st' => r = .inr (103, [("row", .int 0)]) /\ st' = st := by
  refine fsx_run ?_
  unfold d_read_history
  refine w_seq (w_if (w_bnot (w_btru (w_hval (w_un (w_hval (w_var rfl ?_)))))))
  refine x2 (h2 _) h1 ⟨_, _, rfl, rfl, fun _ => ?_, (fun z => nomatch z)⟩
  refine w_raiseI (w_avals (w_acons (w_hval (w_c (w_anil ⟨_, lv1, _, rfl, log_ok (by omega) (by omega), rfl, rfl⟩)))))
theorem rep0 : gReprA [.int 0] = some (.str "0") := by kernel_rfl
theorem right_odd {ws : List Str} {d : D} (h1 : gIsi .str d = some (.bl false)) (h2 : ∀ m, look (.val d) m = some d) {st : Sto} (hf : st.all flatO = true) :
    FS fn__law_read_right [wsD ws, d] st fun r st' => r = .bl true /\ st'.all flatO = true := by
  refine fs_run ?_
  unfold d__law_read_right
  refine w_forget ?_
  refine w_seq (w_multi (w_mcons (w_c (w_mcons (w_c (w_mnil ⟨rfl, ?_⟩))))))
  show W _ ⟨[some (wsD ws), some d, some .non, some .non, none, none, none], st⟩ _
  refine w_seq (w_try2 (w_setX (w_callX (w_avals (w_acons (w_hval (w_var rfl (w_acons (w_hval (w_var rfl (w_anil ⟨_, lv2, w_avals (w_anil ⟨_, lv0, ?_⟩)⟩)))))))))))
  refine (rhist_odd h1 h2).mono ?_
  rintro r st' ⟨rfl, rfl⟩
  refine ⟨by simp, ?_⟩
  have e : (st' ++ [O.exc 103 [("row", .int 0)]])[st'.length]? = some (.exc 103 [("row", .int 0)]) := by simp
  have hf2 : (st' ++ [O.exc 103 [("row", .int 0)]]).all flatO = true := all_app hf (by simp [flatO, flats, flat])
  show W _ ⟨[some (wsD ws), some d, some (.obj st'.length), some .non, none, none, none], st' ++ [.exc 103 [("row", .int 0)]]⟩ _
  refine w_seq (w_if (w_bnot (w_btru (w_hval (w_un (w_hval (w_var rfl ?_)))))))
  refine x2 (h2 _) h1 ⟨_, _, rfl, rfl, fun _ => ?_, (fun z => nomatch z)⟩
  refine w_rt (w_eand (w_bof (w_isx (w_var rfl (.inr ⟨_, 103, _, true, rfl, e, rfl, _, rfl, fun _ => ?_, (fun z => nomatch z)⟩)))))
  refine w_op (w_hval (w_fn (w_acons (w_hval (w_xf (w_var rfl ⟨_, 103, _, _, rfl, e, by simp, rfl, ?_⟩))))))
  refine w_anil ?_
  refine x2L rfl rep0 ?_
  refine w_hval (w_c ?_)
  refine x3 rfl (by rw [zero_S]; rfl) (by rw [zero_S]; exact gEq_S (as1 (by decide)) (as1 (by decide))) ⟨rfl, ?_⟩
  exact forget_flat hf2
theorem as_nil : As [] := fun c hc => by cases hc
theorem empty_S : ("" : Str) = SX.S [] := by kernel_rfl
def resR (ws : List Str) (a : List Nat) : D := if (rdT ws [] (rows a)).length = (rows a).length then .tup [.tup ((rdT ws [] (rows a)).map letD), .non] else .tup [.non, .int ((rdT ws [] (rows a)).length : Nat)]
theorem both_ok {ws : List Str} (hnm : Nms ws) (hw : ∀ x ∈ ws, lowS x = true) {a : List Nat} (hA : As a) (ha : a.length <= 90000) (hr : (TL.spl [10] 0 [] a).length <= 300) {m : MS} (hf : m.st.all flatO = true)
    (h0 : m.sl[0]? = some (some (wsD ws))) (h1 : m.sl[1]? = some (some (.str (SX.S a)))) {Q : D -> MS -> Prop} (q : Q (resR ws a) m) :
    W (eIf (bOf (eOp gEq (hVal (eVar 1)) (hVal (eC (.str ""))))) (eTup (aCons (hVal (eTup (aNil))) (aCons (hVal (eC .non)) (aNil)))) (eCallK fn__law_read [.p 0, .p 1] [] (aVals (aCons (hVal (eVar 0)) (aCons (hVal (eVar 1)) (aNil)))) (aVals (aNil)))) m Q := by
  refine w_eif (w_bof (w_op (w_hval (w_var h1 (w_hval (w_c ?_))))))
  refine x3 rfl (by rw [empty_S]; rfl) (gEq_S hA as_nil) ⟨_, rfl, fun hb => ?_, fun hb => ?_⟩
  · have hb := of_decide_eq_true hb
    subst hb
    refine w_tup (w_acons (w_hval (w_tup (w_anil ?_))))
    refine xT lv0 (fitk (by simp)) ?_
    refine w_acons (w_hval (w_c (w_anil ?_)))
    refine xT lv2 (fitk (by simp)) ?_
    exact q
  · have hb := of_decide_eq_false hb
    refine w_callK (w_avals (w_acons (w_hval (w_var h0 (w_acons (w_hval (w_var h1 (w_anil ⟨_, lv2, w_avals (w_anil ⟨_, lv0, ?_⟩)⟩))))))))
    refine (lread_ok hnm hw hA ha hr hf).mono ?_
    rintro r st' ⟨rfl, e⟩
    have er : resL ws (TL.spl [10] 0 [] a) = resR ws a := by
      unfold resR resL rows
      rw [if_neg hb]
    rw [er]
    have em : (⟨m.sl, st'⟩ : MS) = m := by rw [e]
    first | exact em ▸ q | (rw [em]; exact q)
theorem right_txt {ws : List Str} (hnm : Nms ws) (hw : ∀ x ∈ ws, lowS x = true) {a : List Nat} (hA : As a) (ha : a.length <= 90000) (hr : (TL.spl [10] 0 [] a).length <= 300) {st : Sto} (hf : st.all flatO = true) :
    FS fn__law_read_right [wsD ws, .str (SX.S a)] st fun r st' => r = .bl true /\ st'.all flatO = true := by
  have hr2 : (rows a).length <= 300 := by
    unfold rows
    split
    · simp
    · exact hr
  obtain ⟨gd, gl⟩ := rdT_gd (ws := ws) (R := rows a) (l := [])
  refine fs_run ?_
  unfold d__law_read_right
  refine w_forget ?_
  refine w_seq (w_multi (w_mcons (w_c (w_mcons (w_c (w_mnil ⟨rfl, ?_⟩))))))
  show W _ ⟨[some (wsD ws), some (.str (SX.S a)), some .non, some .non, none, none, none], st⟩ _
  refine w_seq (w_try2 (w_setX (w_callX (w_avals (w_acons (w_hval (w_var rfl (w_acons (w_hval (w_var rfl (w_anil ⟨_, lv2, w_avals (w_anil ⟨_, lv0, ?_⟩)⟩)))))))))))
  refine (rhist_ok hw hA ha hr2 hf).mono ?_
  rintro r st' ⟨rfl, e, rfl, hf'⟩
  by_cases hfull : (rdT ws [] (rows a)).length = (rows a).length
  · have eX : resX ws a = .inl (.tup ((rdT ws [] (rows a)).map letD)) := if_pos hfull
    have eR : resR ws a = .tup [.tup ((rdT ws [] (rows a)).map letD), .non] := if_pos hfull
    obtain ⟨r1, r2⟩ := rep_ls gd (by omega)
    rw [eX]
    show W _ ⟨[some (wsD ws), some (.str (SX.S a)), some .non, some (.tup ((rdT ws [] (rows a)).map letD)), none, none, none], st ++ e⟩ _
    refine w_seq (w_if (w_bnot (w_btru (w_hval (w_un (w_hval (w_var rfl ?_)))))))
    refine x2 rfl rfl ⟨_, _, rfl, rfl, (fun z => nomatch z), fun _ => ?_⟩
    refine w_nx ?_
    refine w_seq (w_asg (both_ok hnm hw hA ha hr hf' rfl rfl ?_))
    rw [eR]
    refine ⟨_, rfl, ?_⟩
    show W _ ⟨[some (wsD ws), some (.str (SX.S a)), some .non, some (.tup ((rdT ws [] (rows a)).map letD)), none, some (.tup ((rdT ws [] (rows a)).map letD)), some .non], st ++ e⟩ _
    refine w_seq (w_if (w_bof (w_op (w_hval (w_var rfl (w_hval (w_c ?_)))))))
    refine x3 rfl rfl (d := .bl true) rfl ⟨_, rfl, fun _ => ?_, (fun z => nomatch z)⟩
    refine w_rt (w_eand (w_bof (w_op (w_hval (w_var rfl (w_hval (w_c ?_)))))))
    refine x3 rfl rfl (d := .bl true) rfl ⟨_, rfl, fun _ => ?_, (fun z => nomatch z)⟩
    refine w_op (w_hval (w_fn (w_acons (w_hval (w_var rfl (w_anil ?_))))))
    refine x2L rfl r1 ?_
    refine w_hval (w_fn (w_acons (w_hval (w_var rfl (w_anil ?_)))))
    refine x2L rfl r1 ?_
    exact x3 rfl rfl (gEq_same r2) ⟨rfl, forget_flat hf'⟩
  · have eX : resX ws a = .inr (103, [("row", .int ((rdT ws [] (rows a)).length : Nat))]) := if_neg hfull
    have eR : resR ws a = .tup [.non, .int ((rdT ws [] (rows a)).length : Nat)] := if_neg hfull
    generalize hk : (rdT ws [] (rows a)).length = k at eX eR
    obtain ⟨r1, r2⟩ := rep_int (i := (k : Nat)) (by omega) (by omega)
    rw [eX]
    refine ⟨by simp, ?_⟩
    have ex : (st ++ e ++ [O.exc 103 [("row", .int (k : Nat))]])[(st ++ e).length]? = some (.exc 103 [("row", .int (k : Nat))]) := by simp
    have hf2 : (st ++ e ++ [O.exc 103 [("row", .int (k : Nat))]]).all flatO = true := all_app hf' (by simp [flatO, flats, flat])
    show W _ ⟨[some (wsD ws), some (.str (SX.S a)), some (.obj (st ++ e).length), some .non, none, none, none], st ++ e ++ [.exc 103 [("row", .int (k : Nat))]]⟩ _
    refine w_seq (w_if (w_bnot (w_btru (w_hval (w_un (w_hval (w_var rfl ?_)))))))
    refine x2 rfl rfl ⟨_, _, rfl, rfl, (fun z => nomatch z), fun _ => ?_⟩
    refine w_nx ?_
    refine w_seq (w_asg (both_ok hnm hw hA ha hr hf2 rfl rfl ?_))
    rw [eR]
    refine ⟨_, rfl, ?_⟩
    show W _ ⟨[some (wsD ws), some (.str (SX.S a)), some (.obj (st ++ e).length), some .non, none, some .non, some (.int (k : Nat))], st ++ e ++ [.exc 103 [("row", .int (k : Nat))]]⟩ _
    refine w_seq (w_if (w_bof (w_op (w_hval (w_var rfl (w_hval (w_c ?_)))))))
    refine x3 rfl rfl (d := .bl false) rfl ⟨_, rfl, (fun z => nomatch z), fun _ => ?_⟩
    refine w_nx ?_
    refine w_rt (w_eand (w_bof (w_isx (w_var rfl (.inr ⟨_, 103, _, true, rfl, ex, rfl, _, rfl, fun _ => ?_, (fun z => nomatch z)⟩)))))
    refine w_eand (w_bof (w_isx (w_var rfl (.inr ⟨_, 103, _, true, rfl, ex, rfl, _, rfl, fun _ => ?_, (fun z => nomatch z)⟩))))
    refine w_op (w_hval (w_fn (w_acons (w_hval (w_xf (w_var rfl ⟨_, 103, _, _, rfl, ex, by simp, rfl, ?_⟩))))))
    refine w_anil ?_
    refine x2L rfl r1 ?_
    refine w_hval (w_fn (w_acons (w_hval (w_var rfl (w_anil ?_)))))
    refine x2L rfl r1 ?_
    exact x3 rfl rfl (gEq_same r2) ⟨rfl, forget_flat hf2⟩
end Lk77
namespace Lk77
open PySem PySem.Spec L2 MI
set_option hygiene false
local macro_rules | `(tactic| bv_omega) => `(tactic| (repeat (first | refine w_seq ?_ | refine w_set ?_ | refine w_rt ?_ | refine w_drop ?_ | refine w_frz ?_ | refine w_multi ?_ | refine w_mcons ?_ | refine w_mnil ?_ | refine w_asg ?_ | refine w_hval ?_ | refine w_var rfl ?_ | refine w_c ?_ | refine w_hslot rfl ?_ | refine w_acons ?_ | refine w_anil ?_ | refine w_op ?_ | refine w_un ?_ | refine w_fn ?_ | refine w_tup ?_ | refine w_lst ?_ | refine w_avals ?_ | refine w_alooks ?_ | refine w_callK ?_ | refine w_cut ?_ | refine w_pint ?_ | refine w_pno ?_ | refine w_bof ?_ | refine w_nx ?_ | refine w_ret ?_ | refine w_fld ?_ | refine w_meth ?_ | refine w_make ?_ | refine w_fldS ?_ | refine w_share ?_ | refine w_shareD ?_ | refine w_putD ?_ | refine w_mutO ?_ | refine w_asgL ?_ | refine w_bnot ?_ | refine w_btru ?_ | refine xT lv0 (fitk (Nat.le_of_ble_eq_true rfl)) ?_ | refine ⟨_, lv0, ?_⟩ | refine xT lv1 (fitk (Nat.le_of_ble_eq_true rfl)) ?_ | refine ⟨_, lv1, ?_⟩ | refine xT lv2 (fitk (Nat.le_of_ble_eq_true rfl)) ?_ | refine ⟨_, lv2, ?_⟩ | refine xT lv3 (fitk (Nat.le_of_ble_eq_true rfl)) ?_ | refine ⟨_, lv3, ?_⟩ | refine xT lv4 (fitk (Nat.le_of_ble_eq_true rfl)) ?_ | refine ⟨_, lv4, ?_⟩ | refine xT lv5 (fitk (Nat.le_of_ble_eq_true rfl)) ?_ | refine ⟨_, lv5, ?_⟩ | refine xT rfl (fitk (Nat.le_of_ble_eq_true rfl)) ?_ | refine x3 rfl rfl rfl ?_ | refine x2 rfl rfl ?_ | refine x2L rfl rfl ?_ | refine Exists.intro _ (Exists.intro _ (And.intro rfl (And.intro rfl ?_))) | refine Exists.intro _ (And.intro rfl ?_))))
local macro_rules | `(tactic| ac_rfl) => `(tactic| (repeat (first | refine w_seq ?_ | refine w_set ?_ | refine w_rt ?_ | refine w_drop ?_ | refine w_frz ?_ | refine w_multi ?_ | refine w_mcons ?_ | refine w_mnil ?_ | refine w_asg ?_ | refine w_hval ?_ | refine w_var rfl ?_ | refine w_c ?_ | refine w_hslot rfl ?_ | refine w_acons ?_ | refine w_anil ?_ | refine w_op ?_ | refine w_un ?_ | refine w_fn ?_ | refine w_tup ?_ | refine w_lst ?_ | refine w_avals ?_ | refine w_alooks ?_ | refine w_callK ?_ | refine w_cut ?_ | refine w_pint ?_ | refine w_pno ?_ | refine w_bof ?_ | refine w_nx ?_ | refine w_ret ?_ | refine w_fld ?_ | refine w_meth ?_ | refine w_make ?_ | refine w_fldS ?_ | refine w_share ?_ | refine w_shareD ?_ | refine w_putD ?_ | refine w_mutO ?_ | refine w_asgL ?_ | refine w_bnot ?_ | refine w_btru ?_ | refine xT lv0 (fitk (Nat.le_of_ble_eq_true rfl)) ?_ | refine ⟨_, lv0, ?_⟩ | refine xT lv1 (fitk (Nat.le_of_ble_eq_true rfl)) ?_ | refine ⟨_, lv1, ?_⟩ | refine xT lv2 (fitk (Nat.le_of_ble_eq_true rfl)) ?_ | refine ⟨_, lv2, ?_⟩ | refine xT lv3 (fitk (Nat.le_of_ble_eq_true rfl)) ?_ | refine ⟨_, lv3, ?_⟩ | refine xT lv4 (fitk (Nat.le_of_ble_eq_true rfl)) ?_ | refine ⟨_, lv4, ?_⟩ | refine xT lv5 (fitk (Nat.le_of_ble_eq_true rfl)) ?_ | refine ⟨_, lv5, ?_⟩ | refine xT rfl (fitk (Nat.le_of_ble_eq_true rfl)) ?_ | refine x3 rfl rfl rfl ?_ | refine x2 rfl rfl ?_ | refine Exists.intro _ (And.intro rfl ?_))))
theorem spl_cnt : ∀ (l acc : List Nat), (TL.spl [10] 0 acc l).length = l.count 10 + 1
  | [], acc => by rw [TL.spl_nil]; rfl
  | c :: r, acc => by
    by_cases h : c = 10
    · subst h
      have hp : TL.pre [10] (10 :: r) = true := TL.pre_self [10] r
      rw [TL.spl_hit hp, List.length_cons, List.count_cons_self]
      show (TL.spl [10] 0 [] r).length + 1 = _
      rw [spl_cnt r []]
    · have hp : TL.pre [10] (c :: r) = false := TL.pre_of_head [] r h
      rw [TL.spl_miss hp, spl_cnt r (acc ++ [c]), List.count_cons_of_ne (by simpa using h)]
abbrev fS (r : List Nat) : D := .str (SX.S r)
theorem cutL_to {R : List (List Nat)} {i : Int} (h : 0 <= i) : gCut (.lst (R.map fS)) none (some i) = some (.lst ((R.take i.toNat).map fS)) := by
  obtain ⟨k, rfl⟩ := Int.eq_ofNat_of_zero_le h
  show some (D.lst (cutD (R.map fS) none (some (k : Nat)))) = _
  unfold cutD
  rw [HT.sIx_none, HT.sIx_nat, List.length_map, List.drop_zero, Nat.sub_zero, <- List.map_take, Int.toNat_natCast]
  congr 3
  by_cases hk : k <= R.length
  · rw [Nat.min_eq_left hk]
  · rw [Nat.min_eq_right (by omega), List.take_of_length_le (Nat.le_refl _), List.take_of_length_le (by omega)]
theorem cutL_from {R : List (List Nat)} {i : Int} (h : 0 <= i) : gCut (.lst (R.map fS)) (some i) none = some (.lst ((R.drop i.toNat).map fS)) := by
  obtain ⟨k, rfl⟩ := Int.eq_ofNat_of_zero_le h
  show some (D.lst (cutD (R.map fS) (some (k : Nat)) none)) = _
  unfold cutD
  rw [HT.sIx_none, HT.sIx_nat, List.length_map, <- List.map_drop, <- List.map_take, Int.toNat_natCast]
  congr 3
  by_cases hk : k <= R.length
  · rw [Nat.min_eq_left hk, List.take_of_length_le (by rw [List.length_drop]; omega)]
  · rw [Nat.min_eq_right (by omega), List.drop_of_length_le (Nat.le_refl _), List.drop_of_length_le (by omega)]
    simp
theorem repS_cps (c : Nat) : ∀ (n : Nat) (acc : Array Nat), ((List.replicate n (#[c] : Array Nat)).foldl (· ++ ·) acc).toList = acc.toList ++ List.replicate n c
  | 0, acc => by simp
  | n + 1, acc => by
    rw [List.replicate_succ, List.foldl_cons, repS_cps c n, Array.toList_append, List.replicate_succ]
    simp
theorem rep_zero : gMulZ (.str "0") (.int 4301) = some (.str (SX.S (List.replicate 4301 48))) := by
  have e : repS (SX.S [48]) 4301 = SX.S (List.replicate 4301 48) := by
    apply TL.ext_tl
    show ((List.replicate 4301 (SX.S [48]).cps).foldl (· ++ ·) #[]).toList = List.replicate 4301 48
    have := repS_cps 48 4301 #[]
    rw [show (SX.S [48]).cps = #[48] from rfl, this]
    rfl
  rw [zero_S]
  show (if (1 : Int) <= 4301 /\ (4301 : Int) <= 10000 /\ (SX.S [48]).length <= 100 then some (D.str (repS (SX.S [48]) (4301 : Int).toNat)) else none) = _
  rw [if_pos ⟨by decide, by decide, by rw [SX.S_len]; decide⟩]
  show some (D.str (repS (SX.S [48]) 4301)) = _
  rw [e]
def Rw (p : List Nat) : Prop := As p /\ 10 ∉ p /\ p.length <= 4400
theorem rw_app {p q : List Nat} (hp : Rw p) (hq : As q /\ 10 ∉ q) (hl : p.length + q.length <= 4400) : Rw (p ++ q) := by
  refine ⟨fun c hc => ?_, fun hc => ?_, by rw [List.length_append]; exact hl⟩
  · rcases List.mem_append.mp hc with z | z
    · exact hp.1 c z
    · exact hq.1 c z
  · rcases List.mem_append.mp hc with z | z
    · exact hp.2.1 z
    · exact hq.2 z
def okB (p : List Nat) : Bool := p.all fun c => decide (c < 128) && decide (c ≠ 10)
theorem okB_as {p : List Nat} (h : okB p = true) : As p /\ 10 ∉ p := by
  unfold okB at h
  rw [List.all_eq_true] at h
  refine ⟨fun c hc => ?_, fun hc => ?_⟩
  · have := h c hc
    rw [Bool.and_eq_true, decide_eq_true_eq] at this
    exact this.1
  · have := h 10 hc
    simp at this
theorem lits : ("join 0 1" : Str) = SX.S [106, 111, 105, 110, 32, 48, 32, 49] /\ ("join 1 0" : Str) = SX.S [106, 111, 105, 110, 32, 49, 32, 48] /\ ("join 2 2" : Str) = SX.S [106, 111, 105, 110, 32, 50, 32, 50] /\ ("join 0" : Str) = SX.S [106, 111, 105, 110, 32, 48] /\ ("join 0.1" : Str) = SX.S [106, 111, 105, 110, 32, 48, 46, 49] := ⟨by kernel_rfl, by kernel_rfl, by kernel_rfl, by kernel_rfl, by kernel_rfl⟩
theorem ends : ([" 0.0", "a 0.0", " 00.1", " 0 1", " 0.0.0", " 1000000000.0"] : List Str) = [[32, 48, 46, 48], [97, 32, 48, 46, 48], [32, 48, 48, 46, 49], [32, 48, 32, 49], [32, 48, 46, 48, 46, 48], [32, 49, 48, 48, 48, 48, 48, 48, 48, 48, 48, 46, 48]].map SX.S := by kernel_rfl
theorem end0 : (" 0." : Str) = SX.S [32, 48, 46] := by kernel_rfl
theorem signs_S : ("\n .01-aj" : Str) = SX.S [10, 32, 46, 48, 49, 45, 97, 106] := by kernel_rfl
theorem pick_signs {st : Sto} {n N : Nat} {P : D -> Sto -> Prop} (h : HF st n N) (hN : N <= 1000000) (k : ∀ (c : Nat) st', c < 128 -> HF st' n (N + 1) -> P (.str (SX.S [c])) st') : FS fn__law_pick [.obj n, .str "\n .01-aj"] st P := by
  rw [signs_S]
  refine fs_run ?_
  unfold d__law_pick
  refine w_rt (w_op (w_hval (w_var rfl (w_hval (w_callK (w_avals (w_acons (w_hval (w_var rfl (w_acons (w_hval (w_fn (w_acons (w_hval (w_var rfl (w_anil ?_))))))))))))))))
  refine x2L rfl (gLen_S (by decide)) ?_
  refine w_anil ⟨_, lv2, w_avals (w_anil ⟨_, lv0, ?_⟩)⟩
  refine fs_take (many := 8) h hN (by decide) (by decide) fun r st' r0 r1 h' => ?_
  have e : ∃ c, gIxA (.str (SX.S [10, 32, 46, 48, 49, 45, 97, 106])) (.int r) = some (.str (SX.S [c])) /\ c < 128 := by
    have : r = 0 \/ r = 1 \/ r = 2 \/ r = 3 \/ r = 4 \/ r = 5 \/ r = 6 \/ r = 7 := by omega
    rcases this with rfl | rfl | rfl | rfl | rfl | rfl | rfl | rfl
    · exact ⟨10, by kernel_rfl, by decide⟩
    · exact ⟨32, by kernel_rfl, by decide⟩
    · exact ⟨46, by kernel_rfl, by decide⟩
    · exact ⟨48, by kernel_rfl, by decide⟩
    · exact ⟨49, by kernel_rfl, by decide⟩
    · exact ⟨45, by kernel_rfl, by decide⟩
    · exact ⟨97, by kernel_rfl, by decide⟩
    · exact ⟨106, by kernel_rfl, by decide⟩
  obtain ⟨c, e, hc⟩ := e
  exact x3 rfl rfl e (k c st' hc h')
theorem joined {Rs : List (List Nat)} (h : ∀ r ∈ Rs, As r /\ 10 ∉ r) (hs : (Rs.map List.length).sum <= 20000) (hl : Rs.length <= 250) : As (TL.joinL [10] Rs) /\ (TL.joinL [10] Rs).length <= 90000 /\ (TL.spl [10] 0 [] (TL.joinL [10] Rs)).length <= 300 := by
  obtain ⟨h1, h2, h3⟩ := joinL_facts h
  exact ⟨h1, by omega, by rw [spl_cnt]; omega⟩
theorem spoilt_ok {st : Sto} {n N : Nat} {ws : List Str} {a : List Nat} {P : D -> Sto -> Prop} (h : HF st n N) (hN : N <= 50000) (hws : Nms ws) (w0 : ws ≠ []) (hA : As a) (ha : a.length <= 6000) (hc : a.count 10 <= 200) (hR : ∀ r ∈ TL.spl [10] 0 [] a, As r /\ 10 ∉ r /\ r.length <= 29)
    (k : ∀ b st', As b -> b.length <= 90000 -> (TL.spl [10] 0 [] b).length <= 300 -> HF st' n (N + 10) -> P (.str (SX.S b)) st') : FS fn__law_spoilt [.obj n, .str (SX.S a), wsD ws] st P := by
  obtain ⟨R, hRe⟩ : ∃ R, TL.spl [10] 0 [] a = R := ⟨_, rfl⟩
  have hRl : R.length = a.count 10 + 1 := by rw [<- hRe, spl_cnt]
  rw [hRe] at hR
  obtain ⟨w, wr, ew⟩ : ∃ w wr, ws = w :: wr := by
    cases ws with
    | nil => exact absurd rfl w0
    | cons w wr => exact ⟨w, wr, rfl⟩
  obtain ⟨p, ep, hp⟩ := hws w (by rw [ew]; exact List.mem_cons_self ..)
  have ix0 : gIxA (wsD ws) (.int 0) = some (.str (SX.S p)) := by
    rw [ew, ep]
    show atI (D.str (SX.S p) :: wr.map .str) 0 = _
    unfold atI ixN
    simp
  have hpA := as_name hp
  have hpR : Rw p /\ p.length <= 8 := by
    have hf := name_free (.inr hp)
    have hl : p.length < 9 := by
      unfold nameB at hp
      rw [Bool.and_eq_true, Bool.and_eq_true, decide_eq_true_eq, decide_eq_true_eq] at hp
      exact hp.2.1
    exact ⟨⟨hpA, fun z => by have := hf 10 z; omega, by omega⟩, by omega⟩
  clear ew ep hp
  refine fs_run ?_
  unfold d__law_spoilt
  refine w_seq (w_multi (w_mcons (w_split (w_var rfl ⟨_, rfl, w_c ⟨_, rfl, ?_, ?_⟩⟩))))
  · rw [nl_S, SX.S_len, SX.S_len, fitk (by omega)]
    rfl
  rw [nl_S, split1 (by decide), map_S, hRe]
  refine w_mcons (w_callK (w_avals (w_acons (w_hval (w_var rfl (w_acons (w_hval (w_c (w_anil ⟨_, lv2, w_avals (w_anil ⟨_, lv0, ?_⟩)⟩)))))))))
  refine fs_take (many := 6) h (by omega) (by decide) (by decide) fun way st1 a0 a1 h1 => ?_
  refine w_mnil ⟨rfl, ?_⟩
  show W _ ⟨[some (.obj n), some (.str (SX.S a)), some (wsD ws), some (.lst (R.map fS)), some (.int way), none, none, none, none, none, none, none], st1⟩ _
  refine w_seq (w_multi (w_mcons (w_callK (w_avals (w_acons (w_hval (w_var rfl (w_acons (w_hval (w_fn (w_acons (w_hslot rfl (w_anil ?_)))))))))))))
  refine x2L rfl (d := .int (R.length : Nat)) (by show some (D.int ((R.map fS).length : Nat)) = _; rw [List.length_map]) ?_
  refine w_anil ⟨_, lv2, w_avals (w_anil ⟨_, lv0, ?_⟩)⟩
  refine fs_take (many := (R.length : Nat)) h1 (by omega) (by omega) (by omega) fun i st2 i0 i1 h2 => ?_
  refine w_mcons (w_callK (w_avals (w_acons (w_hval (w_var rfl (w_acons (w_hval (w_fn (w_acons (w_hslot rfl (w_anil ?_)))))))))))
  refine x2L rfl (d := .int (R.length : Nat)) (by show some (D.int ((R.map fS).length : Nat)) = _; rw [List.length_map]) ?_
  refine w_anil ⟨_, lv2, w_avals (w_anil ⟨_, lv0, ?_⟩)⟩
  refine fs_take (many := (R.length : Nat)) h2 (by omega) (by omega) (by omega) fun j st3 j0 j1 h3 => ?_
  refine w_mnil ⟨rfl, ?_⟩
  show W _ ⟨[some (.obj n), some (.str (SX.S a)), some (wsD ws), some (.lst (R.map fS)), some (.int way), some (.int i), some (.int j), none, none, none, none, none], st3⟩ _
  have sumR : ∀ {Q : List (List Nat)}, (∀ r ∈ Q, r ∈ R) -> (Q.map List.length).sum <= 29 * Q.length := fun hq => sum_le fun r hr => (hR r (hq r hr)).2.2
  have hil : i.toNat < R.length := by omega
  refine w_seq (w_if (w_bof (w_op (w_hval (w_var rfl (w_hval (w_c ?_)))))))
  refine x3 rfl rfl (ge_int (i := way) (j := 0)) ⟨_, rfl, fun hb => ?_, fun hb => ?_⟩
  · refine w_rt (w_join (w_c ⟨_, rfl, ?_⟩))
    refine w_op (w_hval (w_cut (w_hslot rfl (w_pno (w_pint (w_var rfl ⟨_, rfl, ?_⟩))))))
    refine ⟨_, _, rfl, cutL_to i0, ?_⟩
    refine w_hval (w_cut (w_hslot rfl (w_pint (w_op (w_hval (w_var rfl (w_hval (w_c ?_))))))))
    refine x3 rfl rfl (d := .int (i + 1)) rfl ⟨_, rfl, w_pno ?_⟩
    refine ⟨_, _, rfl, cutL_from (by omega), ?_⟩
    refine x3 rfl rfl (addL_ok (by rw [List.length_map, List.length_map, List.length_take, List.length_drop]; omega)) ?_
    rw [<- List.map_append]
    have hm : ∀ r ∈ R.take i.toNat ++ R.drop (i + 1).toNat, r ∈ R := fun r hr => by
      rcases List.mem_append.mp hr with z | z
      · exact List.mem_of_mem_take z
      · exact List.mem_of_mem_drop z
    have hll : (R.take i.toNat ++ R.drop (i + 1).toNat).length <= 201 := by
      rw [List.length_append, List.length_take, List.length_drop]
      omega
    have hs := sumR hm
    obtain ⟨b1, b2, b3⟩ := joined (fun r hr => ⟨(hR r (hm r hr)).1, (hR r (hm r hr)).2.1⟩) (by omega) (by omega)
    exact ⟨_, gJoin_S (by omega), k _ st3 b1 b2 b3 (h3.mono (by omega))⟩
  refine w_nx ?_
  refine w_seq (w_if (w_bof (w_op (w_hval (w_var rfl (w_hval (w_c ?_)))))))
  refine x3 rfl rfl (ge_int (i := way) (j := 1)) ⟨_, rfl, fun hb2 => ?_, fun hb2 => ?_⟩
  · have hi : i < ((R.map fS).length : Nat) := by rw [List.length_map]; exact i1
    have hj : j < ((R.map fS).length : Nat) := by rw [List.length_map]; exact j1
    obtain ⟨ri, hri, eri⟩ : ∃ r, r ∈ R /\ gIxA (.lst (R.map fS)) (.int i) = some (fS r) := by
      refine ⟨R[i.toNat]'(by omega), List.getElem_mem _, ?_⟩
      rw [MI.ix_lst i0 hi, List.getElem_map]
    obtain ⟨rj, hrj, erj⟩ : ∃ r, r ∈ R /\ gIxA (.lst (R.map fS)) (.int j) = some (fS r) := by
      refine ⟨R[j.toNat]'(by omega), List.getElem_mem _, ?_⟩
      rw [MI.ix_lst j0 hj, List.getElem_map]
    have hset : ∀ (Q : List (List Nat)) (x : Int) (r : List Nat), 0 <= x -> x < (Q.length : Nat) -> gSet (.lst (Q.map fS)) (.int x) (fS r) = some (.lst ((Q.set x.toNat r).map fS)) := by
      intro Q x r x0 x1
      show (ixN (Q.map fS).length x).map (fun j => D.lst ((Q.map fS).set j (fS r))) = _
      have e : ixN (Q.map fS).length x = some x.toNat := by unfold ixN; rw [if_pos x0, if_pos (by rw [List.length_map]; exact x1)]
      rw [e, List.map_set]
      rfl
    refine w_seq (w_asgs ?_)
    refine w_tup (w_acons (w_hval (w_op (w_hslot rfl (w_hval (w_var rfl ?_))))))
    refine x3 rfl rfl erj ?_
    refine w_acons (w_hval (w_op (w_hslot rfl (w_hval (w_var rfl ?_)))))
    refine x3 rfl rfl eri ?_
    refine w_anil ?_
    refine xT lv2 (fitk (by simp)) ?_
    refine ⟨_, rfl, ?_⟩
    refine w_gcons (w_gput rfl (w_hval (w_var rfl ⟨_, _, _, rfl, rfl, hset R i rj i0 i1, ?_⟩)))
    refine w_gcons (w_gput rfl (w_hval (w_var rfl ⟨_, _, _, rfl, rfl, hset (R.set i.toNat rj) j ri j0 (by rw [List.length_set]; exact j1), ?_⟩)))
    refine w_gnil ?_
    refine w_rt (w_join (w_c ⟨_, rfl, ?_⟩))
    refine w_last rfl ?_
    have hm : ∀ r ∈ (R.set i.toNat rj).set j.toNat ri, r ∈ R := fun r hr => by
      rcases List.mem_or_eq_of_mem_set hr with z | z
      · rcases List.mem_or_eq_of_mem_set z with z | z
        · exact z
        · rw [z]; exact hrj
      · rw [z]; exact hri
    have hll : ((R.set i.toNat rj).set j.toNat ri).length <= 201 := by
      rw [List.length_set, List.length_set]
      omega
    have hs := sumR hm
    obtain ⟨b1, b2, b3⟩ := joined (fun r hr => ⟨(hR r (hm r hr)).1, (hR r (hm r hr)).2.1⟩) (by omega) (by omega)
    exact ⟨_, gJoin_S (by omega), k _ st3 b1 b2 b3 (h3.mono (by omega))⟩
  refine w_nx ?_
  refine w_frz ?_
  refine w_seq (w_if (w_bof (w_op (w_hval (w_var rfl (w_hval (w_c ?_)))))))
  refine x3 rfl rfl (ge_int (i := way) (j := 2)) ⟨_, rfl, fun hb3 => ?_, fun hb3 => ?_⟩
  · refine w_seq (w_set (w_lst (w_acons (w_hval (w_c (w_acons (w_hval (w_c (w_acons (w_hval (w_c (w_acons (w_hval (w_c (w_acons (w_hval (w_c (w_acons (w_hval (w_c (w_anil ?_)))))))))))))))))))))
    refine xT rfl (fitk (by simp)) ?_
    obtain ⟨l1, l2, l3, l4, l5⟩ := lits
    rw [l1, l2, l3, l4, l5, empty_S]
    let T0 : List (List Nat) := [[106, 111, 105, 110, 32, 48, 32, 49], [106, 111, 105, 110, 32, 49, 32, 48], [106, 111, 105, 110, 32, 50, 32, 50], [], [106, 111, 105, 110, 32, 48], [106, 111, 105, 110, 32, 48, 46, 49]]
    let E0 : List (List Nat) := [[32, 48, 46, 48], [97, 32, 48, 46, 48], [32, 48, 48, 46, 49], [32, 48, 32, 49], [32, 48, 46, 48, 46, 48], [32, 49, 48, 48, 48, 48, 48, 48, 48, 48, 48, 46, 48]]
    show W _ ⟨[some (.obj n), some (.str (SX.S a)), some (wsD ws), some (.lst (R.map fS)), some (.int way), some (.int i), some (.int j), some (.lst (T0.map fS)), none, none, none, none], st3⟩ _
    refine w_seq (w_drop (w_mut rfl ?_))
    refine w_alooks (w_acons (w_hval ?_))
    refine w_lc (fun _ dn ys m => ∃ b8 : Option D, m = ⟨[some (.obj n), some (.str (SX.S a)), some (wsD ws), some (.lst (R.map fS)), some (.int way), some (.int i), some (.int j), some (.lst (T0.map fS)), b8, none, none, none], st3⟩ /\ ys = (E0.take dn.length).map fun e => fS (p ++ e)) ?_
    refine w_iseq (w_lst (w_acons (w_hval (w_c (w_acons (w_hval (w_c (w_acons (w_hval (w_c (w_acons (w_hval (w_c (w_acons (w_hval (w_c (w_acons (w_hval (w_c (w_anil ?_))))))))))))))))))))
    have eE : ([.str " 0.0", .str "a 0.0", .str " 00.1", .str " 0 1", .str " 0.0.0", .str " 1000000000.0"] : List D) = E0.map fS := by
      have := congrArg (List.map D.str) ends
      rw [map_S] at this
      exact this
    refine xT (ds := E0.map fS) (by rw [<- eE]; rfl) (fitk (by decide)) ?_
    refine ⟨_, .inl rfl, ⟨none, rfl, rfl⟩, ?_, ?_⟩
    · rintro dn d rest2 ys m2 he2 ⟨b8, rfl, rfl⟩
      obtain ⟨z, hz, rfl⟩ := map_at (xs := E0) (enc := fS) he2
      have hzl : z.length <= 13 := by
        have hm := List.mem_of_getElem? hz
        have : ∀ e ∈ E0, e.length <= 13 := by decide
        exact this z hm
      refine ⟨_, rfl, w_ret ⟨(fun z => nomatch z), fun _ => ?_⟩⟩
      refine w_op (w_hval (w_op (w_hval (w_var rfl (w_hval (w_c ?_))))))
      refine x3 rfl rfl ix0 ?_
      refine w_hval (w_var rfl ?_)
      refine x3 rfl rfl (addS (by omega)) ?_
      refine ⟨_, rfl, ?_⟩
      rw [List.length_append, List.length_singleton, List.take_add_one, hz, List.map_append]
      rfl
    rintro ys m2 ⟨b8, rfl, rfl⟩
    refine ⟨fitk (by rw [List.length_map, List.length_take]; exact Nat.le_trans (Nat.min_le_right _ _) (by decide)), ?_⟩
    have eT : E0.take (E0.map fS).length = E0 := by rw [List.length_map, List.take_length]
    rw [eT]
    refine w_anil ?_
    refine ⟨_, rfl, ?_⟩
    refine ⟨_, _, _, rfl, extend_ok (by rw [List.length_map, List.length_map]; decide), ?_⟩
    have eM : (E0.map fun e => fS (p ++ e)) = (E0.map fun e => p ++ e).map fS := by rw [List.map_map]; rfl
    rw [eM, <- List.map_append]
    show W _ ⟨[some (.obj n), some (.str (SX.S a)), some (wsD ws), some (.lst (R.map fS)), some (.int way), some (.int i), some (.int j), some (.lst ((T0 ++ E0.map fun e => p ++ e).map fS)), none, none, none, none], st3⟩ _
    refine w_seq (w_drop (w_mut rfl ?_))
    refine w_avals (w_acons (w_hval (w_op (w_hval (w_op (w_hval (w_op (w_hval (w_var rfl (w_hval (w_c ?_)))))))))))
    refine x3 rfl rfl ix0 ?_
    refine w_hval (w_c ?_)
    refine x3 rfl (by rw [end0]; rfl) (addS (by simp; omega)) ?_
    refine w_hval (w_op (w_hval (w_c (w_hval (w_c ?_)))))
    refine x3 rfl rfl rep_zero ?_
    refine x3 rfl rfl (addS (by rw [List.length_append, List.length_replicate]; simp; omega)) ?_
    refine w_anil ?_
    refine ⟨_, lv1, ?_⟩
    refine ⟨_, _, _, rfl, append_ok (by rw [List.length_map, List.length_append, List.length_map]; decide), ?_⟩
    generalize hL : p ++ [32, 48, 46] ++ List.replicate 4301 48 = L
    have hLr : Rw L := by
      rw [<- hL]
      refine rw_app (rw_app hpR.1 (okB_as (by decide)) (by simp; omega)) ⟨fun c hc => ?_, fun hc => ?_⟩ (by simp; omega)
      · rw [(List.mem_replicate.mp hc).2]
        decide
      · have := (List.mem_replicate.mp hc).2
        omega
    have hall : ∀ r ∈ (T0 ++ E0.map fun e => p ++ e) ++ [L], Rw r := by
      intro r hr
      rcases List.mem_append.mp hr with hr | hr
      · rcases List.mem_append.mp hr with hr | hr
        · have : ∀ r ∈ T0, okB r = true /\ r.length <= 4400 := by decide
          exact ⟨(okB_as (this r hr).1).1, (okB_as (this r hr).1).2, (this r hr).2⟩
        · obtain ⟨e, he, rfl⟩ := List.mem_map.mp hr
          have : ∀ r ∈ E0, okB r = true /\ r.length <= 13 := by decide
          exact rw_app hpR.1 (okB_as (this e he).1) (by have := (this e he).2; omega)
      · rw [List.mem_singleton.mp hr]
        exact hLr
    have eS : ((T0 ++ E0.map fun e => p ++ e).map fS) ++ [fS L] = ((T0 ++ E0.map fun e => p ++ e) ++ [L]).map fS := by rw [List.map_append (l₂ := [L])]; rfl
    rw [show ((T0 ++ E0.map fun e => p ++ e).map fS) ++ [D.str (SX.S L)] = ((T0 ++ E0.map fun e => p ++ e) ++ [L]).map fS from eS]
    have hTl : ((T0 ++ E0.map fun e => p ++ e) ++ [L]).length = 13 := by
      rw [List.length_append, List.length_append, List.length_map]
      rfl
    generalize (T0 ++ E0.map fun e => p ++ e) ++ [L] = T at hall hTl
    show W _ ⟨[some (.obj n), some (.str (SX.S a)), some (wsD ws), some (.lst (R.map fS)), some (.int way), some (.int i), some (.int j), some (.lst (T.map fS)), none, none, none, none], st3⟩ _
    refine w_frz ?_
    refine w_rt (w_join (w_c ⟨_, rfl, ?_⟩))
    refine w_op (w_hval (w_op (w_hval (w_cut (w_hval (w_var rfl (w_pno (w_pint (w_var rfl ⟨_, rfl, ?_⟩)))))))))
    refine ⟨_, _, rfl, cutL_to i0, ?_⟩
    refine w_hval (w_lst (w_acons (w_hval (w_callK (w_avals (w_acons (w_hval (w_var rfl (w_acons (w_hval (w_var rfl (w_anil ⟨_, lv2, w_avals (w_anil ⟨_, lv0, ?_⟩)⟩))))))))))))
    refine fs_pickL h3 (by omega) (by intro z; rw [List.map_eq_nil_iff] at z; rw [z] at hTl; cases hTl) (by rw [List.length_map]; omega) fun d st4 hd h4 => ?_
    obtain ⟨z, hz, rfl⟩ := List.mem_map.mp hd
    have hzr := hall z hz
    refine w_anil ?_
    refine xT lv1 (fitk (by simp)) ?_
    refine x3 rfl rfl (addL_ok (by rw [List.length_map, List.length_take]; simp; omega)) ?_
    refine w_hval (w_cut (w_hval (w_var rfl (w_pint (w_var rfl ⟨_, rfl, w_pno ?_⟩)))))
    refine ⟨_, _, rfl, cutL_from i0, ?_⟩
    refine x3 rfl rfl (addL_ok (by rw [List.length_append, List.length_map, List.length_map, List.length_take, List.length_drop]; simp; omega)) ?_
    have eJ : (R.take i.toNat).map fS ++ [fS z] ++ (R.drop i.toNat).map fS = (R.take i.toNat ++ [z] ++ R.drop i.toNat).map fS := by
      rw [List.map_append, List.map_append]
      rfl
    rw [show (R.take i.toNat).map fS ++ [D.str (SX.S z)] ++ (R.drop i.toNat).map fS = (R.take i.toNat ++ [z] ++ R.drop i.toNat).map fS from eJ]
    have s1 := sumR (Q := R.take i.toNat) fun r hr => List.mem_of_mem_take hr
    have s2 := sumR (Q := R.drop i.toNat) fun r hr => List.mem_of_mem_drop hr
    rw [List.length_take] at s1
    rw [List.length_drop] at s2
    have hs : ((R.take i.toNat ++ [z] ++ R.drop i.toNat).map List.length).sum <= 20000 := by
      rw [List.map_append, List.map_append, List.sum_append, List.sum_append]
      have := hzr.2.2
      simp only [List.map_cons, List.map_nil, List.sum_cons, List.sum_nil]
      omega
    have hll : (R.take i.toNat ++ [z] ++ R.drop i.toNat).length <= 202 := by
      rw [List.length_append, List.length_append, List.length_take, List.length_drop, List.length_singleton]
      omega
    obtain ⟨b1, b2, b3⟩ := joined (Rs := R.take i.toNat ++ [z] ++ R.drop i.toNat) (fun r hr => by
      rcases List.mem_append.mp hr with hr | hr
      · rcases List.mem_append.mp hr with hr | hr
        · exact ⟨(hR r (List.mem_of_mem_take hr)).1, (hR r (List.mem_of_mem_take hr)).2.1⟩
        · rw [List.mem_singleton.mp hr]
          exact ⟨hzr.1, hzr.2.1⟩
      · exact ⟨(hR r (List.mem_of_mem_drop hr)).1, (hR r (List.mem_of_mem_drop hr)).2.1⟩) hs (by omega)
    exact ⟨_, gJoin_S (by omega), k _ st4 b1 b2 b3 (h4.mono (by omega))⟩
  refine w_nx ?_
  refine w_seq (w_multi (w_mcons (w_callK (w_avals (w_acons (w_hval (w_var rfl (w_acons (w_hval (w_op (w_hval (w_fn (w_acons (w_hval (w_var rfl (w_anil ?_))))))))))))))))
  refine x2L rfl (gLen_S (by omega)) ?_
  refine w_hval (w_c ?_)
  refine x3 rfl rfl (d := .int (((a.length : Nat) : Int) + 1)) rfl ?_
  refine w_anil ⟨_, lv2, w_avals (w_anil ⟨_, lv0, ?_⟩)⟩
  refine fs_take (many := ((a.length : Nat) : Int) + 1) h3 (by omega) (by omega) (by omega) fun s st4 s0 s1 h4 => ?_
  refine w_mcons (w_c (w_mnil ⟨rfl, ?_⟩))
  show W _ ⟨[some (.obj n), some (.str (SX.S a)), some (wsD ws), some (.lst (R.map fS)), some (.int way), some (.int i), some (.int j), none, none, some (.int s), some (.str "\n .01-aj"), none], st4⟩ _
  refine w_seq (w_set (w_callK (w_avals (w_acons (w_hval (w_var rfl (w_acons (w_hval (w_var rfl (w_anil ⟨_, lv2, w_avals (w_anil ⟨_, lv0, ?_⟩)⟩))))))))))
  refine pick_signs h4 (by omega) fun c st5 hc5 h5 => ?_
  show W _ ⟨[some (.obj n), some (.str (SX.S a)), some (wsD ws), some (.lst (R.map fS)), some (.int way), some (.int i), some (.int j), none, none, some (.int s), some (.str "\n .01-aj"), some (.str (SX.S [c]))], st5⟩ _
  refine w_rt (w_op (w_hval (w_op (w_hval (w_cut (w_hval (w_var rfl (w_pno (w_pint (w_var rfl ⟨_, rfl, ?_⟩))))))))))
  refine ⟨_, _, rfl, cutTo (by omega) s0, ?_⟩
  refine w_hval (w_op (w_hval (w_lst (w_acons (w_hval (w_var rfl (w_acons (w_hval (w_c (w_anil ?_))))))))))
  refine xT lv2 (fitk (by simp)) ?_
  refine w_hval (w_callK (w_avals (w_acons (w_hval (w_var rfl (w_acons (w_hval (w_c (w_anil ⟨_, lv2, w_avals (w_anil ⟨_, lv0, ?_⟩)⟩)))))))))
  refine fs_take (many := 2) h5 (by omega) (by decide) (by decide) fun u st6 u0 u1 h6 => ?_
  obtain ⟨z, ez, hz⟩ : ∃ z, gIxA (.lst [.str (SX.S [c]), .str ""]) (.int u) = some (.str (SX.S z)) /\ (z = [c] \/ z = []) := by
    have : u = 0 \/ u = 1 := by omega
    rcases this with rfl | rfl
    · exact ⟨[c], rfl, .inl rfl⟩
    · exact ⟨[], by rw [empty_S]; rfl, .inr rfl⟩
  have hzA : As z /\ z.length <= 1 /\ z.count 10 <= 1 := by
    rcases hz with rfl | rfl
    · exact ⟨as1 hc5, Nat.le_refl _, List.count_le_length⟩
    · exact ⟨as_nil, by simp, by simp⟩
  refine x3 rfl rfl ez ?_
  refine x3 rfl rfl (addS (by rw [List.length_take]; omega)) ?_
  refine w_hval (w_cut (w_hval (w_var rfl (w_pint (w_op (w_hval (w_var rfl (w_hval (w_callK (w_avals (w_acons (w_hval (w_var rfl (w_acons (w_hval (w_c (w_anil ⟨_, lv2, w_avals (w_anil ⟨_, lv0, ?_⟩)⟩)))))))))))))))))
  refine fs_take (many := 2) h6 (by omega) (by decide) (by decide) fun v st7 v0 v1 h7 => ?_
  refine x3 rfl rfl (d := .int (s + v)) rfl ⟨_, rfl, w_pno ?_⟩
  refine ⟨_, _, rfl, cutFrom (by omega) (by omega), ?_⟩
  refine x3 rfl rfl (addS (by rw [List.length_append, List.length_take, List.length_drop]; omega)) ?_
  have c1 : (a.take s.toNat).count 10 + (a.drop (s + v).toNat).count 10 <= a.count 10 := by
    have e := congrArg (List.count 10) (List.take_append_drop s.toNat a)
    rw [List.count_append] at e
    have e2 : (a.drop (s + v).toNat).count 10 <= (a.drop s.toNat).count 10 := by
      have : a.drop (s + v).toNat = (a.drop s.toNat).drop v.toNat := by
        rw [List.drop_drop]
        congr 1
        omega
      rw [this]
      exact List.Sublist.count_le _ (List.drop_sublist _ _)
    omega
  refine k _ st7 ?_ ?_ ?_ (h7.mono (by omega))
  · intro x hx
    rcases List.mem_append.mp hx with hx | hx
    · rcases List.mem_append.mp hx with hx | hx
      · exact hA x (List.mem_of_mem_take hx)
      · exact hzA.1 x hx
    · exact hA x (List.mem_of_mem_drop hx)
  · rw [List.length_append, List.length_append, List.length_take, List.length_drop]
    omega
  · rw [spl_cnt, List.count_append, List.count_append]
    omega
end Lk77
namespace Lk77
open PySem PySem.Spec L2 MI
set_option hygiene false
local macro_rules | `(tactic| bv_omega) => `(tactic| (repeat (first | refine w_seq ?_ | refine w_set ?_ | refine w_rt ?_ | refine w_drop ?_ | refine w_frz ?_ | refine w_multi ?_ | refine w_mcons ?_ | refine w_mnil ?_ | refine w_asg ?_ | refine w_hval ?_ | refine w_var rfl ?_ | refine w_c ?_ | refine w_hslot rfl ?_ | refine w_acons ?_ | refine w_anil ?_ | refine w_op ?_ | refine w_un ?_ | refine w_fn ?_ | refine w_tup ?_ | refine w_lst ?_ | refine w_avals ?_ | refine w_alooks ?_ | refine w_callK ?_ | refine w_cut ?_ | refine w_pint ?_ | refine w_pno ?_ | refine w_bof ?_ | refine w_nx ?_ | refine w_ret ?_ | refine w_fld ?_ | refine w_meth ?_ | refine w_make ?_ | refine w_fldS ?_ | refine w_share ?_ | refine w_shareD ?_ | refine w_putD ?_ | refine w_mutO ?_ | refine w_asgL ?_ | refine w_bnot ?_ | refine w_btru ?_ | refine xT lv0 (fitk (Nat.le_of_ble_eq_true rfl)) ?_ | refine ⟨_, lv0, ?_⟩ | refine xT lv1 (fitk (Nat.le_of_ble_eq_true rfl)) ?_ | refine ⟨_, lv1, ?_⟩ | refine xT lv2 (fitk (Nat.le_of_ble_eq_true rfl)) ?_ | refine ⟨_, lv2, ?_⟩ | refine xT lv3 (fitk (Nat.le_of_ble_eq_true rfl)) ?_ | refine ⟨_, lv3, ?_⟩ | refine xT lv4 (fitk (Nat.le_of_ble_eq_true rfl)) ?_ | refine ⟨_, lv4, ?_⟩ | refine xT lv5 (fitk (Nat.le_of_ble_eq_true rfl)) ?_ | refine ⟨_, lv5, ?_⟩ | refine xT rfl (fitk (Nat.le_of_ble_eq_true rfl)) ?_ | refine x3 rfl rfl rfl ?_ | refine x2 rfl rfl ?_ | refine x2L rfl rfl ?_ | refine Exists.intro _ (Exists.intro _ (And.intro rfl (And.intro rfl ?_))) | refine Exists.intro _ (And.intro rfl ?_))))
local macro_rules | `(tactic| ac_rfl) => `(tactic| (repeat (first | refine w_seq ?_ | refine w_set ?_ | refine w_rt ?_ | refine w_drop ?_ | refine w_frz ?_ | refine w_multi ?_ | refine w_mcons ?_ | refine w_mnil ?_ | refine w_asg ?_ | refine w_hval ?_ | refine w_var rfl ?_ | refine w_c ?_ | refine w_hslot rfl ?_ | refine w_acons ?_ | refine w_anil ?_ | refine w_op ?_ | refine w_un ?_ | refine w_fn ?_ | refine w_tup ?_ | refine w_lst ?_ | refine w_avals ?_ | refine w_alooks ?_ | refine w_callK ?_ | refine w_cut ?_ | refine w_pint ?_ | refine w_pno ?_ | refine w_bof ?_ | refine w_nx ?_ | refine w_ret ?_ | refine w_fld ?_ | refine w_meth ?_ | refine w_make ?_ | refine w_fldS ?_ | refine w_share ?_ | refine w_shareD ?_ | refine w_putD ?_ | refine w_mutO ?_ | refine w_asgL ?_ | refine w_bnot ?_ | refine w_btru ?_ | refine xT lv0 (fitk (Nat.le_of_ble_eq_true rfl)) ?_ | refine ⟨_, lv0, ?_⟩ | refine xT lv1 (fitk (Nat.le_of_ble_eq_true rfl)) ?_ | refine ⟨_, lv1, ?_⟩ | refine xT lv2 (fitk (Nat.le_of_ble_eq_true rfl)) ?_ | refine ⟨_, lv2, ?_⟩ | refine xT lv3 (fitk (Nat.le_of_ble_eq_true rfl)) ?_ | refine ⟨_, lv3, ?_⟩ | refine xT lv4 (fitk (Nat.le_of_ble_eq_true rfl)) ?_ | refine ⟨_, lv4, ?_⟩ | refine xT lv5 (fitk (Nat.le_of_ble_eq_true rfl)) ?_ | refine ⟨_, lv5, ?_⟩ | refine xT rfl (fitk (Nat.le_of_ble_eq_true rfl)) ?_ | refine x3 rfl rfl rfl ?_ | refine x2 rfl rfl ?_ | refine Exists.intro _ (And.intro rfl ?_))))
theorem isHs_gd {ws : List Str} (hn : Nms ws) : ∀ {ls : List Lt} {l : Ld}, isHs ws l (ls.map letD) = true -> (∀ q ∈ ls, Lok q) -> ∀ q ∈ ls, Gd q
  | [], _, _, _, q, hq => by cases hq
  | (w, x, y) :: r, l, h, hl, q, hq => by
    rw [List.map_cons, isHs, Bool.and_eq_true] at h
    rcases List.mem_cons.mp hq with rfl | hq
    · refine ⟨hl _ (List.mem_cons_self ..), ?_⟩
      obtain ⟨w', x', y', e, _, _, _, hw⟩ := isL_form h.1
      cases e
      by_cases hj : w = "join"
      · exact ⟨JN, hj.trans jn_S, .inl rfl⟩
      · obtain ⟨p, e, hp⟩ := hn w (hw hj)
        exact ⟨p, e, .inr hp⟩
    · exact isHs_gd hn h.2 (fun q hq => hl q (List.mem_cons_of_mem _ hq)) q hq
theorem spl_txt {ls : List Lt} (hg : ∀ t ∈ ls, Gd t) : ∀ r ∈ TL.spl [10] 0 [] (txt ls), As r /\ 10 ∉ r /\ r.length <= 29 := by
  cases ls with
  | nil =>
    intro r hr
    have hr : r ∈ TL.spl [10] 0 [] [] := hr
    rw [TL.spl_nil] at hr
    rw [List.mem_singleton.mp hr]
    exact ⟨as_nil, by simp, by simp⟩
  | cons t ls =>
    intro r hr
    have hf : ∀ p ∈ (t :: ls).map rowL, 10 ∉ p := fun p hp => by
      obtain ⟨x, hx, rfl⟩ := List.mem_map.mp hp
      exact (row_facts (hg x hx)).2.2.1
    have e : TL.spl [10] 0 [] (txt (t :: ls)) = (t :: ls).map rowL := SX.spl_join (c := 10) (sep := []) (by simp) hf
    rw [e] at hr
    obtain ⟨x, hx, rfl⟩ := List.mem_map.mp hr
    have := row_facts (hg x hx)
    exact ⟨this.1, this.2.2.1, this.2.1⟩
theorem kd_ls {ls : List Lt} (h : ∀ q ∈ ls, Lok q) : Kd 2 (.tup (ls.map letD)) := Kd.tup fun d hd => by
  obtain ⟨t, ht, rfl⟩ := List.mem_map.mp hd
  have := h t ht
  have := p9
  obtain ⟨h1, ⟨h2, h3⟩, h4, h5⟩ := h t ht
  exact Kd.tup fun d hd => by
    simp only [List.mem_cons, List.not_mem_nil, or_false] at hd
    rcases hd with rfl | rfl | rfl
    · exact Kd.str h1
    · exact Kd.int (by omega) (by omega)
    · exact Kd.int (by omega) (by omega)
def Tx (a : List Nat) : Prop := As a /\ a.length <= 90000 /\ (TL.spl [10] 0 [] a).length <= 300
def It (d : D) : Prop := (∃ a, d = .str (SX.S a) /\ Tx a) \/ (gIsi .str d = some (.bl false) /\ ∀ m, look (.val d) m = some d)
theorem tx_of {a : List Nat} (h1 : As a) (h2 : a.length <= 7000) (h3 : a.count 10 <= 210) : Tx a := ⟨h1, by omega, by rw [spl_cnt]; omega⟩
theorem all_true : ∀ {ys : List D}, (∀ y ∈ ys, y = .bl true) -> gAll [.lst ys] = some (.bl true) := by
  have aux : ∀ {ys : List D}, (∀ y ∈ ys, y = .bl true) -> ∃ bs : List Bool, bls? ys = some bs /\ bs.all id = true := by
    intro ys
    induction ys with
    | nil => exact fun _ => ⟨[], rfl, rfl⟩
    | cons y ys ih =>
      intro h
      obtain ⟨bs, e, hb⟩ := ih fun z hz => h z (List.mem_cons_of_mem _ hz)
      rw [h y (List.mem_cons_self ..)]
      exact ⟨true :: bs, by rw [bls?, e]; rfl, by simpa using hb⟩
  intro ys h
  obtain ⟨bs, e, hb⟩ := aux h
  show (bls? ys).map _ = _
  rw [e]
  show some (D.bl (bs.all id)) = _
  rw [hb]
theorem hf_app {st e : Sto} {n N : Nat} (h : HF st n N) (hf : (st ++ e).all flatO = true) : HF (st ++ e) n N := by
  obtain ⟨⟨g, c, t, H, ht⟩, _⟩ := h
  refine ⟨⟨g, c, t, ?_, ht⟩, hf⟩
  obtain ⟨H1, H2, H3, H4, H5⟩ := H
  exact ⟨by rw [List.getElem?_append_left (List.getElem?_eq_some_iff.mp H1).1]; exact H1, H2, H3, H4, H5⟩
theorem right_ok {st : Sto} {n : Nat} (h : HF st n 0) : FS fn__law_right [.obj n] st fun d st' => d = .bl true /\ st'.all flatO = true := by
  refine fs_run ?_
  unfold d__law_right
  bv_omega
  refine fs_take (many := 3) h (by omega) (by decide) (by decide) fun r st1 r0 r1 h1 => ?_
  bv_omega
  refine words_ok (many := 1 + r) h1 (by omega) (by omega) (by omega) fun ws st2 hws hnm0 hwl h2 => ?_
  have w0 : ws ≠ [] := by intro z; rw [z] at hwl; simp at hwl; omega
  have w1 : ws.length <= 3 := by omega
  have hnm : Nms ws := fun x hx => by
    obtain ⟨p, e, p0, p1, hp⟩ := hnm0 x hx
    refine ⟨p, e, ?_⟩
    have hj : p ≠ JN := fun z => hws.nj x hx (by rw [e, z, jn_S])
    unfold nameB
    rw [decide_eq_true p0, decide_eq_true p1, decide_eq_false hj, Bool.true_and, Bool.true_and, Bool.not_false, Bool.true_and]
    exact List.all_eq_true.mpr fun c hc => by
      have := hp c hc
      unfold isLow
      rw [decide_eq_true this.1, decide_eq_true this.2]
      rfl
  clear hnm0
  bv_omega
  refine fs_pickL (ds := [.int 21, .int 21, .int 21, .int 201]) h2 (by omega) (by simp) (by simp) fun d st3 hd h3 => ?_
  obtain ⟨j, rfl, hj⟩ : ∃ j : Int, d = .int j /\ 0 < j /\ j <= 201 := by
    simp only [List.mem_cons, List.not_mem_nil, or_false] at hd
    rcases hd with rfl | rfl | rfl | rfl
    · exact ⟨21, rfl, by decide⟩
    · exact ⟨21, rfl, by decide⟩
    · exact ⟨21, rfl, by decide⟩
    · exact ⟨201, rfl, by decide⟩
  bv_omega
  refine fs_take (many := j) h3 (by omega) (by omega) (by omega) fun m st4 m0 m1 h4 => ?_
  obtain ⟨many, rfl⟩ := Int.eq_ofNat_of_zero_le m0
  bv_omega
  refine hist_ok (many := many) h4 (by omega) hws w0 w1 (by omega) fun ls st5 hh hlok hll h5 => ?_
  have hg := isHs_gd hnm hh hlok
  have hl2 : ls.length <= 200 := by omega
  have h5 := h5.mono (N' := 3000) (by omega)
  obtain ⟨tA, tl, tc⟩ := txt_facts hg hl2
  have htx : Tx (txt ls) := tx_of tA (by omega) (by omega)
  have hrows := rows_txt hg
  show W _ ⟨[some (.obj n), some (wsD ws), some (.tup (ls.map letD)), none, none, none, none, none], st5⟩ _
  refine w_seq (w_set (w_join (w_c ⟨_, rfl, ?_⟩)))
  refine w_lc (fun _ done ys m => ∃ a4 : Option D, m = ⟨[some (.obj n), some (wsD ws), some (.tup (ls.map letD)), none, a4, none, none, none], st5⟩ /\ ys = (ls.take done.length).map fun t => .str (SX.S (rowL t))) ?_
  refine w_iseq (w_var rfl ⟨_, .inr rfl, ⟨none, rfl, rfl⟩, ?_, ?_⟩)
  · rintro done d rest ys m2 he ⟨a4, rfl, rfl⟩
    obtain ⟨t, ht, rfl⟩ := map_at (xs := ls) (enc := letD) he
    refine ⟨_, rfl, w_ret ⟨(fun z => nomatch z), fun _ => ?_⟩⟩
    refine w_callK (w_avals (w_acons (w_hval (w_var rfl (w_anil ⟨_, lv1, w_avals (w_anil ⟨_, lv0, ?_⟩)⟩)))))
    refine (lrow_ok (hg t (List.mem_of_getElem? ht))).mono ?_
    rintro r st' ⟨rfl, rfl⟩
    refine ⟨_, rfl, ?_⟩
    rw [List.length_append, List.length_singleton, List.take_add_one, ht, List.map_append]
    rfl
  rintro ys m2 ⟨a4, rfl, rfl⟩
  have e : List.take (List.map letD ls).length ls = ls := by rw [List.length_map, List.take_length]
  rw [e]
  refine ⟨fitk (by rw [List.length_map]; omega), ?_⟩
  have em : (ls.map fun t => D.str (SX.S (rowL t))) = (ls.map rowL).map fun p => .str (SX.S p) := by rw [List.map_map]; rfl
  rw [em]
  have hs := lrows_ok (ls := ls) (n := 0) (f := fn__law_row) (fun t ht st => lrow_ok (hg t ht)) hg (by omega)
  refine ⟨_, gJoin_S (by omega), ?_⟩
  show W _ ⟨[some (.obj n), some (wsD ws), some (.tup (ls.map letD)), some (.str (SX.S (txt ls))), none, none, none, none], st5⟩ _
  have same : gNe (.str (SX.S (txt ls))) (.str (SX.S (txt ls))) = some (.bl false) := by
    rw [gNe_S tA tA, decide_eq_true rfl]
    rfl
  refine w_seq (w_if (w_bor (w_bof (w_op (w_hval (w_callK (w_avals (w_acons (w_hval (w_var rfl (w_anil ⟨_, lv1, w_avals (w_anil ⟨_, lv0, ?_⟩)⟩)))))))))))
  refine (shist_ok hg hl2).mono ?_
  rintro r st' ⟨rfl, rfl⟩
  refine w_hval (w_var rfl ?_)
  refine x3 rfl rfl same ⟨_, rfl, (fun z => nomatch z), fun _ => ?_⟩
  refine w_bof (w_op (w_hval (w_callK (w_avals (w_anil ⟨_, lv0, w_avals (w_acons (w_hval (w_var rfl (w_anil ⟨_, lv1, ?_⟩))))⟩)))))
  refine (shist_ok hg hl2).mono ?_
  rintro r st' ⟨rfl, rfl⟩
  refine w_hval (w_var rfl ?_)
  refine x3 rfl rfl same ⟨_, rfl, (fun z => nomatch z), fun _ => ?_⟩
  refine w_nx ?_
  have hX : resX ws (txt ls) = .inl (.tup (ls.map letD)) := by
    unfold resX
    rw [hrows, rd_rows hg hh, List.length_map, if_pos rfl]
  refine w_seq (w_if (w_bof (w_op (w_hval (w_callK (w_avals (w_anil ⟨_, lv0, w_avals (w_acons (w_hval (w_var rfl (w_acons (w_hval (w_var rfl (w_anil ⟨_, lv2, ?_⟩)))))))⟩)))))))
  refine (fs_noX (f := fnX_read_history) (P := fun r s => r = .tup (ls.map letD) /\ ∃ e, s = st' ++ e /\ s.all flatO = true) ((rhist_ok hws.low tA (by omega) (by rw [hrows, List.length_map]; omega) h5.2).mono fun r s ⟨e1, q⟩ => ⟨_, e1.trans hX, rfl, q⟩)).mono ?_
  rintro r st6 ⟨rfl, ex, rfl, hf6⟩
  have h6 := hf_app h5 hf6
  generalize st' ++ ex = st6 at h6 hf6
  refine w_hval (w_var rfl ?_)
  refine x3 rfl rfl (kd_same (kd_ls hlok)) ⟨_, rfl, (fun z => nomatch z), fun _ => ?_⟩
  refine w_nx ?_
  refine w_seq (w_set (w_lst (w_acons (w_hval (w_c (w_acons (w_hval (w_c (w_acons (w_hval (w_tup (w_anil ?_))))))))))))
  refine xT lv0 (fitk (by simp)) ?_
  refine w_acons (w_hval (w_var rfl (w_acons (w_hval (w_lst (w_acons (w_hval (w_var rfl (w_anil ?_)))))))))
  refine xT lv1 (fitk (by simp)) ?_
  refine w_acons (w_hval (w_c (w_acons (w_hval (w_c (w_acons (w_hval (w_c (w_acons (w_hval (w_op (w_hval (w_var rfl (w_hval (w_c ?_)))))))))))))))
  refine x3 rfl (by rw [nl_S]; rfl) (addS (by simp; omega)) ?_
  refine w_acons (w_hval (w_op (w_hval (w_c (w_hval (w_var rfl ?_))))))
  refine x3 (by rw [nl_S]; rfl) rfl (addS (by simp; omega)) ?_
  refine w_anil ?_
  refine xT (ds := [.non, .int 0, .tup [], .tup (ls.map letD), .lst [.str (SX.S (txt ls))], .str "", .str " ", .str "\n", .str (SX.S (txt ls ++ [10])), .str (SX.S ([10] ++ txt ls))]) rfl (fitk (by simp)) ?_
  have as10 : As [10] := as1 (by decide)
  have hall : ∀ d ∈ ([.non, .int 0, .tup [], .tup (ls.map letD), .lst [.str (SX.S (txt ls))], .str "", .str " ", .str "\n", .str (SX.S (txt ls ++ [10])), .str (SX.S ([10] ++ txt ls))] : List D), It d := by
    intro d hd
    simp only [List.mem_cons, List.not_mem_nil, or_false] at hd
    rcases hd with rfl | rfl | rfl | rfl | rfl | rfl | rfl | rfl | rfl | rfl
    · exact .inr ⟨rfl, fun _ => rfl⟩
    · exact .inr ⟨rfl, fun _ => rfl⟩
    · exact .inr ⟨rfl, fun _ => rfl⟩
    · exact .inr ⟨rfl, fun _ => rfl⟩
    · exact .inr ⟨rfl, fun _ => rfl⟩
    · exact .inl ⟨[], by rw [empty_S], tx_of as_nil (by simp) (by simp)⟩
    · exact .inl ⟨[32], by rw [blank_S], tx_of (as1 (by decide)) (by simp) (by simp)⟩
    · exact .inl ⟨[10], by rw [nl_S], tx_of as10 (by simp) (by simp)⟩
    · refine .inl ⟨_, rfl, tx_of (fun c hc => ?_) (by rw [List.length_append, List.length_singleton]; omega) (by rw [List.count_append]; have : ([10] : List Nat).count 10 = 1 := by decide
                                                                                                                 omega)⟩
      rcases List.mem_append.mp hc with z | z
      · exact tA c z
      · exact as10 c z
    · refine .inl ⟨_, rfl, tx_of (fun c hc => ?_) (by rw [List.length_append, List.length_singleton]; omega) (by rw [List.count_append]; have : ([10] : List Nat).count 10 = 1 := by decide
                                                                                                                 omega)⟩
      rcases List.mem_append.mp hc with z | z
      · exact as10 c z
      · exact tA c z
  have hlen : ([.non, .int 0, .tup [], .tup (ls.map letD), .lst [.str (SX.S (txt ls))], .str "", .str " ", .str "\n", .str (SX.S (txt ls ++ [10])), .str (SX.S ([10] ++ txt ls))] : List D).length = 10 := rfl
  generalize ([.non, .int 0, .tup [], .tup (ls.map letD), .lst [.str (SX.S (txt ls))], .str "", .str " ", .str "\n", .str (SX.S (txt ls ++ [10])), .str (SX.S ([10] ++ txt ls))] : List D) = L0 at hall hlen
  show W _ ⟨[some (.obj n), some (wsD ws), some (.tup (ls.map letD)), some (.str (SX.S (txt ls))), none, some (.lst L0), none, none], st6⟩ _
  refine w_seq (w_for (fun _ done m => ∃ (L : List D) (a6 : Option D) (st : Sto), m = ⟨[some (.obj n), some (wsD ws), some (.tup (ls.map letD)), some (.str (SX.S (txt ls))), none, some (.lst L), a6, none], st⟩ /\ (∀ d ∈ L, It d) /\ L.length = 10 + done.length /\ HF st n (3000 + 10 * done.length)) ?_)
  refine w_irange1 (w_acons (w_hval (w_c (w_anil ?_))))
  refine ⟨_, rfl, small_ok (by omega) (by omega), ⟨L0, none, st6, rfl, hall, by rw [hlen]; rfl, h6⟩, ?_, ?_⟩
  · rintro done d rest m2 he ⟨L, a6, st7, rfl, hL, hLl, h7⟩
    obtain ⟨hlt, rfl⟩ := range_at he
    have hlt : done.length < 24 := hlt
    refine ⟨_, rfl, ?_⟩
    refine w_drop (w_mut rfl ?_)
    refine w_avals (w_acons (w_hval (w_callK (w_avals (w_acons (w_hval (w_var rfl (w_acons (w_hval (w_var rfl (w_acons (w_hval (w_var rfl (w_anil ⟨_, lv3, w_avals (w_anil ⟨_, lv0, ?_⟩)⟩))))))))))))))
    refine spoilt_ok h7 (by omega) hnm w0 tA tl tc (spl_txt hg) fun b st8 b1 b2 b3 h8 => ?_
    refine w_anil ?_
    refine ⟨_, lv1, ?_⟩
    refine ⟨_, _, _, rfl, append_ok (by omega), ?_⟩
    refine ⟨L ++ [.str (SX.S b)], some (.int (done.length : Nat)), st8, rfl, fun d hd => ?_, by rw [List.length_append, List.length_append, hLl]; rfl, by rw [List.length_append, List.length_singleton]; exact h8.mono (by omega)⟩
    rcases List.mem_append.mp hd with z | z
    · exact hL d z
    · rw [List.mem_singleton.mp z]
      exact .inl ⟨b, rfl, b1, b2, b3⟩
  rintro m2 ⟨L, a6, st7, rfl, hL, hLl, h7⟩
  rw [rangeD_len] at hLl
  have hLl : L.length <= 100 := by rw [hLl]; decide
  have hf7 := h7.2
  refine w_frz ?_
  refine w_rt (w_fn (w_acons (w_hval ?_)))
  refine w_lc (fun _ done ys m => ∃ (a7 : Option D) (st : Sto), m = ⟨[some (.obj n), some (wsD ws), some (.tup (ls.map letD)), some (.str (SX.S (txt ls))), none, some (.lst L), a6, a7], st⟩ /\ st.all flatO = true /\ (∀ y ∈ ys, y = .bl true) /\ ys.length = done.length) ?_
  refine w_iseq (w_var rfl ⟨_, .inl rfl, ⟨none, st7, rfl, hf7, by simp, rfl⟩, ?_, ?_⟩)
  · rintro done d rest ys m2 he ⟨a7, st8, rfl, hf8, hy, hyl⟩
    have hd := hL d (by rw [<- he]; simp)
    refine ⟨_, rfl, w_ret ⟨(fun z => nomatch z), fun _ => ?_⟩⟩
    refine w_callK (w_avals (w_acons (w_hval (w_var rfl (w_acons (w_hval (w_var rfl (w_anil ⟨_, lv2, w_avals (w_anil ⟨_, lv0, ?_⟩)⟩))))))))
    have hr : FS fn__law_read_right [wsD ws, d] st8 fun r st' => r = .bl true /\ st'.all flatO = true := by
      rcases hd with ⟨a, rfl, t1, t2, t3⟩ | ⟨q1, q2⟩
      · exact right_txt hnm hws.low t1 t2 t3 hf8
      · exact right_odd q1 q2 hf8
    refine hr.mono ?_
    rintro r st9 ⟨rfl, hf9⟩
    refine ⟨_, st9, rfl, hf9, fun y hy2 => ?_, by simp [hyl]⟩
    rcases List.mem_append.mp hy2 with z | z
    · exact hy y z
    · exact List.mem_singleton.mp z
  rintro ys m2 ⟨a7, st8, rfl, hf8, hy, hyl⟩
  refine ⟨fitk (by omega), ?_⟩
  refine w_anil ?_
  exact x2L rfl (all_true hy) ⟨rfl, hf8⟩
theorem hand_fs {st : Sto} {ns : List Int} {k : Int} {P : D -> Sto -> Prop} (hs : st.all flatO = true) (h0 : 0 <= k) (h1 : k < 100) (q : ∀ n st', HF st' n 0 -> P (.obj n) st') : FS fn__law_hand [.scr ns, .int k] st P := by
  obtain ⟨n, st', e, H⟩ := handF (ns := ns) hs h0 h1
  exact fs_of e (q _ _ H)
theorem law_fs (ns : List Int) : FS fn_law [.scr ns] [] fun d _ => d = .bl true := by
  refine fs_run ?_
  unfold d_law
  bv_omega
  refine w_lc (fun _ done ys m => ∃ (a1 : Option D) (st : Sto), m = ⟨[some (.scr ns), a1], st⟩ /\ st.all flatO = true /\ (∀ y ∈ ys, y = .bl true) /\ ys.length = done.length) ?_
  refine w_irange1 ?_
  bv_omega
  have hk : (0 : Int) <= (if (if (3 : Int) < ns.length then 3 else (ns.length : Int)) > 1 then (if (3 : Int) < ns.length then 3 else (ns.length : Int)) else 1) /\ (if (if (3 : Int) < ns.length then 3 else (ns.length : Int)) > 1 then (if (3 : Int) < ns.length then 3 else (ns.length : Int)) else 1) <= 3 := by
    split <;> split <;> omega
  refine ⟨small_ok (by omega) (by omega), ⟨none, [], rfl, rfl, by simp, rfl⟩, ?_, ?_⟩
  · rintro done d rest ys m2 he ⟨a1, st, rfl, hs, hy, hl⟩
    obtain ⟨hlt, rfl⟩ := range_at he
    refine ⟨_, rfl, w_ret ⟨(fun z => nomatch z), fun _ => ?_⟩⟩
    bv_omega
    refine hand_fs hs (by omega) (by omega) fun n st1 h1 => ?_
    bv_omega
    refine (right_ok h1).mono ?_
    rintro d st2 ⟨rfl, hs2⟩
    refine ⟨_, _, rfl, hs2, fun y hy2 => ?_, by simp [hl]⟩
    rcases List.mem_append.mp hy2 with z | z
    · exact hy y z
    · exact List.mem_singleton.mp z
  rintro ys m2 ⟨a1, st, rfl, hs, hy, hl⟩
  rw [rangeD_len] at hl
  refine ⟨fitk (by omega), ?_⟩
  bv_omega
  exact x2L rfl (all_true hy) rfl
theorem law_run (ns : List Int) (h : ns.length <= 63) : ∃ st, fn_law [.scr ns] [] = some (.bl true, st) := by
  obtain ⟨d, st, e, rfl⟩ := (law_fs ns).ex
  exact ⟨st, e⟩
end Lk77
namespace Lk77
open PySem PySem.Spec L2 MI
theorem facts {P : Program} {w : World} {K : PySem.W.Frag} {h : Heap} {mg : Str -> Option Value} {f : Addr} (X : K.In h) (G : h.Ns mainGlobals mg) (hfa : mg ("law" : Str) = some (.ref f)) (c : He.SaysD fas fns K) (cg0 : exB K = true) :
    ∃ fd : FuncData, (∀ (s : Shared) (v : Value), BindsTo s fd ⟨[v], []⟩ [("_law_script", v)]) /\ ∀ base : Heap, K.In base -> base.Ns mainGlobals mg -> FnG P w K mg base 8 f fd ["_law_script"] (SpD ⟨K, P, w⟩ (clsF K) 1 fn_law) := by
  have cg := (Bool.and_eq_true_iff.mp cg0).1
  have cd := (Bool.and_eq_true_iff.mp cg0).2
  have cx := (Bool.and_eq_true_iff.mp cd).2
  replace cd := (Bool.and_eq_true_iff.mp cd).1
  have C : Mod ⟨K, P, w⟩ mg (clsF K) := ⟨He.cls_ok (c.fact 40 (f := .cls "World") rfl), He.noat_ok (c.fact 42 (f := .noat "World" "done") rfl), He.noat_ok (c.fact 43 (f := .noat "World" "leads") rfl), He.free_ok X G (c.fact 23 (f := .free "ValueError") rfl), He.free_ok X G (c.fact 24 (f := .free "abs") rfl), He.free_ok X G (c.fact 25 (f := .free "all") rfl), He.free_ok X G (c.fact 26 (f := .free "bool") rfl), He.free_ok X G (c.fact 27 (f := .free "enumerate") rfl), He.free_ok X G (c.fact 28 (f := .free "int") rfl), He.free_ok X G (c.fact 29 (f := .free "isinstance") rfl), He.free_ok X G (c.fact 30 (f := .free "len") rfl), He.free_ok X G (c.fact 31 (f := .free "max") rfl), He.free_ok X G (c.fact 32 (f := .free "min") rfl), He.free_ok X G (c.fact 33 (f := .free "range") rfl), He.free_ok X G (c.fact 34 (f := .free "repr") rfl), He.free_ok X G (c.fact 35 (f := .free "set") rfl), He.free_ok X G (c.fact 36 (f := .free "sorted") rfl), He.free_ok X G (c.fact 37 (f := .free "str") rfl), He.free_ok X G (c.fact 38 (f := .free "tuple") rfl), He.glo_ok X G (c.fact 46 (f := .glo "Missing") rfl), He.glo_ok X G (c.fact 47 (f := .glo "NoText") rfl), He.glo_ok X G (c.fact 48 (f := .glo "Refused") rfl), cxB_ok (xb_ok cx 0), isB_ok (xb_ok cx 1), xca_ok (xb_ok cx 2), xfs_ok (xb_ok cx 3), isB_ok (xb_ok cx 4), gc_ok X G cg 0, gc_ok X G cg 1, gc_ok X G cg 2⟩
  obtain ⟨fd_is_number, F_is_number⟩ := c.def_ 0 (d := dd_is_number) rfl
  obtain ⟨fd_is_name, F_is_name⟩ := c.def_ 1 (d := dd_is_name) rfl
  obtain ⟨fd_World__called, F_World__called⟩ := c.def_ 2 (d := dd_World__called) rfl
  obtain ⟨fd_show_letter, F_show_letter⟩ := c.def_ 3 (d := dd_show_letter) rfl
  obtain ⟨fd_read_number, F_read_number⟩ := c.def_ 4 (d := dd_read_number) rfl
  obtain ⟨fd__law_hand, F__law_hand⟩ := c.def_ 5 (d := dd__law_hand) rfl
  obtain ⟨fd__law_take, F__law_take⟩ := c.def_ 6 (d := dd__law_take) rfl
  obtain ⟨fd__law_called, F__law_called⟩ := c.def_ 7 (d := dd__law_called) rfl
  obtain ⟨fd__law_number, F__law_number⟩ := c.def_ 8 (d := dd__law_number) rfl
  obtain ⟨fd__law_row, F__law_row⟩ := c.def_ 9 (d := dd__law_row) rfl
  obtain ⟨fd_World__join, F_World__join⟩ := c.def_ 10 (d := dd_World__join) rfl
  obtain ⟨fd_is_letter_in, F_is_letter_in⟩ := c.def_ 11 (d := dd_is_letter_in) rfl
  obtain ⟨fd_show_history, F_show_history⟩ := c.def_ 12 (d := dd_show_history) rfl
  obtain ⟨fd_read_numbers, F_read_numbers⟩ := c.def_ 13 (d := dd_read_numbers) rfl
  obtain ⟨fd__law_pick, F__law_pick⟩ := c.def_ 14 (d := dd__law_pick) rfl
  obtain ⟨fd__law_read, F__law_read⟩ := c.def_ 15 (d := dd__law_read) rfl
  obtain ⟨fd_World____init__, F_World____init__⟩ := c.def_ 16 (d := dd_World____init__) rfl
  obtain ⟨fd_read_letter, F_read_letter⟩ := c.def_ 17 (d := dd_read_letter) rfl
  obtain ⟨fd__law_words, F__law_words⟩ := c.def_ 18 (d := dd__law_words) rfl
  obtain ⟨fd__law_letter, F__law_letter⟩ := c.def_ 19 (d := dd__law_letter) rfl
  obtain ⟨fd__law_spoilt, F__law_spoilt⟩ := c.def_ 20 (d := dd__law_spoilt) rfl
  obtain ⟨fd__law_history, F__law_history⟩ := c.def_ 21 (d := dd__law_history) rfl
  obtain ⟨fd_read_history, F_read_history⟩ := c.def_ 22 (d := dd_read_history) rfl
  obtain ⟨fd__law_read_right, F__law_read_right⟩ := c.def_ 23 (d := dd__law_read_right) rfl
  obtain ⟨fd__law_right, F__law_right⟩ := c.def_ 24 (d := dd__law_right) rfl
  obtain ⟨fd_law, F_law⟩ := c.def_ 25 (d := dd_law) rfl
  obtain ⟨fd_NoText____init__, F_NoText____init__⟩ := c.def_ 26 (d := dd_NoText____init__) rfl
  have E_NoText : ∀ base : Heap, ExI P w K mg base 1 "NoText" (clsF K 103) "row" := fun base => exI_ok F_NoText____init__ sc_NoText____init__ (exfB_ok (xb_ok cx 5)) (He.glo_ok X G (c.fact 47 (f := .glo "NoText") rfl)) (by decide)
    (fun cdv A outer s H E => pss_cons (ps_expr (pe_xinit rfl (He.glo_ok X G (c.fact 48 (f := .glo "Refused") rfl)) (riB_ok (xb_ok cx 6)) (pa_cons (pe_var (i := 0) rfl (by first | exact .inl rfl | exact .inr rfl | exact .inr (.inl rfl) | exact .inr (.inr rfl))) (pa_cons (pe_op op_add_str pe_str (pe_callB SkE.call_repr_int rfl (He.free_ok X G (c.fact 34 (f := .free "repr") rfl)) bt_repr (pa_cons (pe_var (i := 1) rfl (by first | exact .inl rfl | exact .inr rfl | exact .inr (.inl rfl) | exact .inr (.inr rfl))) pa_nil rfl))) pa_nil rfl) rfl)) rfl) (pss_one (ps_ost (pe_var (i := 0) rfl (by first | exact .inl rfl | exact .inr rfl | exact .inr (.inl rfl) | exact .inr (.inr rfl))) (pe_var (i := 1) rfl (by first | exact .inl rfl | exact .inr rfl | exact .inr (.inl rfl) | exact .inr (.inr rfl))) rfl)))
    (fun _ _ _ _ _ _ us hl => match us, hl with | [_, _], _ => rfl)
  have hd_World____init___0 : DV ⟨K, P, w⟩ (fun _ => none) [] (.ref ((He.dflAt ("World", some "__init__") 0) K)) ((.tup [])) := df_ok cd 0
  have b0 := kb_plain (ps := ["_law_hand_here"]) F__law_right 1 [] [.p 0] (fun _ _ _ _ _ _ us ws l1 l2 => match us, ws, l1, l2 with | [_], [], _, _ => rfl)
  have b1 := kb_plain (ps := ["_law_script", "_law_k"]) F__law_hand 2 [] [.p 0, .p 1] (fun _ _ _ _ _ _ us ws l1 l2 => match us, ws, l1, l2 with | [_, _], [], _, _ => rfl)
  have b2 := kb_plain (ps := ["_law_hand_here", "_law_many"]) F__law_words 2 [] [.p 0, .p 1] (fun _ _ _ _ _ _ us ws l1 l2 => match us, ws, l1, l2 with | [_, _], [], _, _ => rfl)
  have b3 := kb_plain (ps := ["_law_hand_here", "_law_many"]) F__law_take 2 [] [.p 0, .p 1] (fun _ _ _ _ _ _ us ws l1 l2 => match us, ws, l1, l2 with | [_, _], [], _, _ => rfl)
  have b4 := kb_plain (ps := ["_law_hand_here", "_law_parts_of", "_law_many"]) F__law_history 3 [] [.p 0, .p 1, .p 2] (fun _ _ _ _ _ _ us ws l1 l2 => match us, ws, l1, l2 with | [_, _, _], [], _, _ => rfl)
  have b5 := kb_plain (ps := ["_law_hand_here", "_law_some"]) F__law_pick 2 [] [.p 0, .p 1] (fun _ _ _ _ _ _ us ws l1 l2 => match us, ws, l1, l2 with | [_, _], [], _, _ => rfl)
  have b6 := kb_plain (ps := ["_law_letter_here"]) F__law_row 1 [] [.p 0] (fun _ _ _ _ _ _ us ws l1 l2 => match us, ws, l1, l2 with | [_], [], _, _ => rfl)
  have b7 := kb_plain (ps := ["history"]) F_show_history 1 [] [.p 0] (fun _ _ _ _ _ _ us ws l1 l2 => match us, ws, l1, l2 with | [_], [], _, _ => rfl)
  have b8 := kb_plain (ps := ["history"]) F_show_history 0 ["history"] [.k 0] (fun _ _ _ _ _ _ us ws l1 l2 => match us, ws, l1, l2 with | [], [_], _, _ => rfl)
  have b9 := kb_plain (ps := ["words", "text"]) F_read_history 0 ["text", "words"] [.k 1, .k 0] (fun _ _ _ _ _ _ us ws l1 l2 => match us, ws, l1, l2 with | [], [_, _], _, _ => rfl)
  have b10 := kb_plain (ps := ["_law_hand_here", "_law_whole_text", "_law_terms"]) F__law_spoilt 3 [] [.p 0, .p 1, .p 2] (fun _ _ _ _ _ _ us ws l1 l2 => match us, ws, l1, l2 with | [_, _, _], [], _, _ => rfl)
  have b11 := kb_plain (ps := ["_law_terms", "_law_whole_text"]) F__law_read_right 2 [] [.p 0, .p 1] (fun _ _ _ _ _ _ us ws l1 l2 => match us, ws, l1, l2 with | [_, _], [], _, _ => rfl)
  have b12 := kb_plain (ps := ["words", "text"]) F_read_history 2 [] [.p 0, .p 1] (fun _ _ _ _ _ _ us ws l1 l2 => match us, ws, l1, l2 with | [_, _], [], _, _ => rfl)
  have b13 := kb_plain (ps := ["_law_terms", "_law_whole_text"]) F__law_read 2 [] [.p 0, .p 1] (fun _ _ _ _ _ _ us ws l1 l2 => match us, ws, l1, l2 with | [_, _], [], _, _ => rfl)
  have b14 := kb_plain (ps := ["_law_word"]) F__law_number 1 [] [.p 0] (fun _ _ _ _ _ _ us ws l1 l2 => match us, ws, l1, l2 with | [_], [], _, _ => rfl)
  have b15 := kb_plain (ps := ["_law_leads", "_law_house"]) F__law_called 2 [] [.p 0, .p 1] (fun _ _ _ _ _ _ us ws l1 l2 => match us, ws, l1, l2 with | [_, _], [], _, _ => rfl)
  obtain ⟨mv16, b16⟩ := kb_dflt (ps := ["self", "joins"]) F_World____init__ 1 [] [.p 0, .d 0] (List.cons_ne_nil _ _) (fun _ _ _ _ _ _ _ us its ws l1 l2 l3 => match us, its, ws, l1, l2, l3 with | [_], [_], [], _, _, _ => ⟨_, rfl, rfl⟩)
  have b17 := kb_plain (ps := ["text"]) F_read_letter 1 [] [.p 0] (fun _ _ _ _ _ _ us ws l1 l2 => match us, ws, l1, l2 with | [_], [], _, _ => rfl)
  have b18 := kb_plain (ps := ["words", "thing", "world"]) F_is_letter_in 3 [] [.p 0, .p 1, .p 2] (fun _ _ _ _ _ _ us ws l1 l2 => match us, ws, l1, l2 with | [_, _, _], [], _, _ => rfl)
  have b19 := kb_plain (ps := ["self", "house", "other"]) F_World__join 3 [] [.p 0, .p 1, .p 2] (fun _ _ _ _ _ _ us ws l1 l2 => match us, ws, l1, l2 with | [_, _, _], [], _, _ => rfl)
  have b20 := kb_plain (ps := ["self", "house"]) F_World__called 2 [] [.p 0, .p 1] (fun _ _ _ _ _ _ us ws l1 l2 => match us, ws, l1, l2 with | [_, _], [], _, _ => rfl)
  obtain ⟨mv21, b21⟩ := kb_only (ps := ["thing", "least"]) F_is_number 1 [] [("least", .int 0)] [.p 0, .d 0] (List.cons_ne_nil _ _) (fun q hq => hq) (fun _ _ _ _ _ _ us mv ws l1 l2 l3 => match us, mv, ws, l1, l2, l3 with | [_], [_], [], _, _, _ => ⟨_, _, _, _, _, _, rfl, rfl, rfl⟩)
  have b22 := kb_plain (ps := ["texts"]) F_read_numbers 1 [] [.p 0] (fun _ _ _ _ _ _ us ws l1 l2 => match us, ws, l1, l2 with | [_], [], _, _ => rfl)
  have b23 := kb_plain (ps := ["thing"]) F_is_name 1 [] [.p 0] (fun _ _ _ _ _ _ us ws l1 l2 => match us, ws, l1, l2 with | [_], [], _, _ => rfl)
  have b24 := kb_plain (ps := ["text"]) F_read_number 1 [] [.p 0] (fun _ _ _ _ _ _ us ws l1 l2 => match us, ws, l1, l2 with | [_], [], _, _ => rfl)
  have b25 := kb_plain (ps := ["letter"]) F_show_letter 1 [] [.p 0] (fun _ _ _ _ _ _ us ws l1 l2 => match us, ws, l1, l2 with | [_], [], _, _ => rfl)
  have b26 := kb_plain (ps := ["_law_hand_here", "_law_parts_of", "_law_known", "_law_leads"]) F__law_letter 4 [] [.p 0, .p 1, .p 2, .p 3] (fun _ _ _ _ _ _ us ws l1 l2 => match us, ws, l1, l2 with | [_, _, _, _], [], _, _ => rfl)
  have e := hfa.symm.trans (He.glo_ok X G (c.fact 22 (f := .glo "law") rfl))
  cases e
  have b := FunD.bindsA (ps := ["_law_script"]) F_law fun _ _ _ _ _ _ us hl => match us, hl with | [_], _ => rfl
  refine ⟨fd_law, fun s v => b s [v] rfl, fun base _ _ => ?_⟩
  have D_is_number : DefG P w K mg base (clsF K) 1 "is_number" _ fd_is_number _ fn_is_number := ⟨ok_is_number (cls := clsF K) (base := base) C F_is_number , He.glo_ok X G (c.fact 0 (f := .glo "is_number") rfl), F_is_number.kp⟩
  have D_is_name : DefG P w K mg base (clsF K) 1 "is_name" _ fd_is_name _ fn_is_name := ⟨ok_is_name (cls := clsF K) (base := base) C F_is_name , He.glo_ok X G (c.fact 1 (f := .glo "is_name") rfl), F_is_name.kp⟩
  have D_World__called : MetG P w K mg base (clsF K) 1 0 "called" _ fd_World__called _ fn_World__called := ⟨ok_World__called (cls := clsF K) (base := base) C F_World__called , C.cl_World, He.meth_ok (c.fact 44 (f := .meth "World" "called") rfl)⟩
  have D_show_letter : DefG P w K mg base (clsF K) 1 "show_letter" _ fd_show_letter _ fn_show_letter := ⟨ok_show_letter (cls := clsF K) (base := base) C F_show_letter , He.glo_ok X G (c.fact 2 (f := .glo "show_letter") rfl), F_show_letter.kp⟩
  have D_read_number : DefG P w K mg base (clsF K) 1 "read_number" _ fd_read_number _ fn_read_number := ⟨ok_read_number (cls := clsF K) (base := base) C F_read_number , He.glo_ok X G (c.fact 3 (f := .glo "read_number") rfl), F_read_number.kp⟩
  have D__law_hand : DefG P w K mg base (clsF K) 1 "_law_hand" _ fd__law_hand _ fn__law_hand := ⟨ok__law_hand (cls := clsF K) (base := base) C F__law_hand , He.glo_ok X G (c.fact 4 (f := .glo "_law_hand") rfl), F__law_hand.kp⟩
  have D__law_take : DefG P w K mg base (clsF K) 1 "_law_take" _ fd__law_take _ fn__law_take := ⟨ok__law_take (cls := clsF K) (base := base) C F__law_take , He.glo_ok X G (c.fact 5 (f := .glo "_law_take") rfl), F__law_take.kp⟩
  have D__law_called : DefG P w K mg base (clsF K) 1 "_law_called" _ fd__law_called _ fn__law_called := ⟨ok__law_called (cls := clsF K) (base := base) C F__law_called , He.glo_ok X G (c.fact 6 (f := .glo "_law_called") rfl), F__law_called.kp⟩
  have D__law_number : DefG P w K mg base (clsF K) 1 "_law_number" _ fd__law_number _ fn__law_number := ⟨ok__law_number (cls := clsF K) (base := base) C F__law_number , He.glo_ok X G (c.fact 7 (f := .glo "_law_number") rfl), F__law_number.kp⟩
  have D__law_row : DefG P w K mg base (clsF K) 1 "_law_row" _ fd__law_row _ fn__law_row := ⟨ok__law_row (cls := clsF K) (base := base) C F__law_row , He.glo_ok X G (c.fact 8 (f := .glo "_law_row") rfl), F__law_row.kp⟩
  have D_World__join : MetG P w K mg base (clsF K) 2 0 "join" _ fd_World__join _ fn_World__join := ⟨ok_World__join (cls := clsF K) (base := base) C F_World__join D_World__called b20, C.cl_World, He.meth_ok (c.fact 45 (f := .meth "World" "join") rfl)⟩
  have D_is_letter_in : DefG P w K mg base (clsF K) 2 "is_letter_in" _ fd_is_letter_in _ fn_is_letter_in := ⟨ok_is_letter_in (cls := clsF K) (base := base) C F_is_letter_in D_is_number D_World__called b20 b21, He.glo_ok X G (c.fact 9 (f := .glo "is_letter_in") rfl), F_is_letter_in.kp⟩
  have D_show_history : DefG P w K mg base (clsF K) 2 "show_history" _ fd_show_history _ fn_show_history := ⟨ok_show_history (cls := clsF K) (base := base) C F_show_history D_show_letter b25, He.glo_ok X G (c.fact 10 (f := .glo "show_history") rfl), F_show_history.kp⟩
  have D_read_numbers : DefG P w K mg base (clsF K) 2 "read_numbers" _ fd_read_numbers _ fn_read_numbers := ⟨ok_read_numbers (cls := clsF K) (base := base) C F_read_numbers D_read_number b24, He.glo_ok X G (c.fact 11 (f := .glo "read_numbers") rfl), F_read_numbers.kp⟩
  have D__law_pick : DefG P w K mg base (clsF K) 2 "_law_pick" _ fd__law_pick _ fn__law_pick := ⟨ok__law_pick (cls := clsF K) (base := base) C F__law_pick D__law_take b3, He.glo_ok X G (c.fact 12 (f := .glo "_law_pick") rfl), F__law_pick.kp⟩
  have D__law_read : DefG P w K mg base (clsF K) 2 "_law_read" _ fd__law_read _ fn__law_read := ⟨ok__law_read (cls := clsF K) (base := base) C F__law_read D__law_number D__law_called b14 b15, He.glo_ok X G (c.fact 13 (f := .glo "_law_read") rfl), F__law_read.kp⟩
  have D_mk_World : MakG P w K mg base (clsF K) 3 0 "World" _ fd_World____init__ _ fn_World____init__ := ⟨ok_World____init__ (cls := clsF K) (base := base) C F_World____init__ D_World__join b19, He.glo_ok X G (c.fact 39 (f := .glo "World") rfl), He.mkr_ok (c.fact 41 (f := .mkr "World") rfl)⟩
  have D_read_letter : DefG P w K mg base (clsF K) 3 "read_letter" _ fd_read_letter _ fn_read_letter := ⟨ok_read_letter (cls := clsF K) (base := base) C F_read_letter D_read_numbers D_is_name b22 b23, He.glo_ok X G (c.fact 14 (f := .glo "read_letter") rfl), F_read_letter.kp⟩
  have D__law_words : DefG P w K mg base (clsF K) 3 "_law_words" _ fd__law_words _ fn__law_words := ⟨ok__law_words (cls := clsF K) (base := base) C F__law_words D__law_pick D__law_take b3 b5, He.glo_ok X G (c.fact 15 (f := .glo "_law_words") rfl), F__law_words.kp⟩
  have D__law_letter : DefG P w K mg base (clsF K) 3 "_law_letter" _ fd__law_letter _ fn__law_letter := ⟨ok__law_letter (cls := clsF K) (base := base) C F__law_letter D__law_called D__law_take D__law_pick b3 b5 b15, He.glo_ok X G (c.fact 16 (f := .glo "_law_letter") rfl), F__law_letter.kp⟩
  have D__law_spoilt : DefG P w K mg base (clsF K) 3 "_law_spoilt" _ fd__law_spoilt _ fn__law_spoilt := ⟨ok__law_spoilt (cls := clsF K) (base := base) C F__law_spoilt D__law_take D__law_pick b3 b5, He.glo_ok X G (c.fact 17 (f := .glo "_law_spoilt") rfl), F__law_spoilt.kp⟩
  have D__law_history : DefG P w K mg base (clsF K) 4 "_law_history" _ fd__law_history _ fn__law_history := ⟨ok__law_history (cls := clsF K) (base := base) C F__law_history D__law_letter b26, He.glo_ok X G (c.fact 18 (f := .glo "_law_history") rfl), F__law_history.kp⟩
  have DX_read_history : DefGX P w K mg base (clsF K) 5 "read_history" _ fd_read_history _ fnX_read_history := ⟨ok_read_history (cls := clsF K) (base := base) C F_read_history D_read_letter D_is_letter_in D_World__join D_mk_World (E_NoText base) hd_World____init___0 b16 b17 b18 b19, He.glo_ok X G (c.fact 19 (f := .glo "read_history") rfl), F_read_history.kp⟩
  have D_read_history : DefG P w K mg base (clsF K) 5 "read_history" _ fd_read_history _ fn_read_history := ⟨DX_read_history.ok.no, DX_read_history.gl, DX_read_history.kp⟩
  have D__law_read_right : DefG P w K mg base (clsF K) 6 "_law_read_right" _ fd__law_read_right _ fn__law_read_right := ⟨ok__law_read_right (cls := clsF K) (base := base) C F__law_read_right DX_read_history D__law_read b12 b13, He.glo_ok X G (c.fact 20 (f := .glo "_law_read_right") rfl), F__law_read_right.kp⟩
  have D__law_right : DefG P w K mg base (clsF K) 7 "_law_right" _ fd__law_right _ fn__law_right := ⟨ok__law_right (cls := clsF K) (base := base) C F__law_right D__law_words D__law_take D__law_history D__law_pick D__law_row D_show_history D_read_history D__law_spoilt D__law_read_right b2 b3 b4 b5 b6 b7 b8 b9 b10 b11, He.glo_ok X G (c.fact 21 (f := .glo "_law_right") rfl), F__law_right.kp⟩
  exact ok_law (cls := clsF K) (base := base) C F_law D__law_right D__law_hand b0 b1
end Lk77
theorem PySem.Challenge.cw_strangeseats_k77_histories_as_texts_holds : PySem.Challenge.rw_strangeseats_k77_histories_as_texts.Holds := by
 refine Lk77.zzClose ?_
 refine MI.walkG (l := PySem.Challenge.rw_strangeseats_k77_histories_as_texts) (n := 63) (k := 8) (x := "_law_script") rfl (by decide) Lk77.zzDf ⟨rfl, by decide, by decide⟩ ?_
 intro w mg fa h Y G hmg0
 obtain ⟨K,KX,c,cg⟩:=Y
 have hmg : mg ("law" : PySem.Str) = some (.ref fa) := by
  rw [<- Lk77.zzNm]
  exact hmg0
 obtain ⟨fd, hb, hF⟩ := Lk77.facts (P := (PySem.Challenge.rw_strangeseats_k77_histories_as_texts).prog) (w := w) KX G hmg c cg
 exact ⟨K, fd, _, KX, hb, fun H a ns hl hS => MI.law_start hS (Lk77.law_run ns hl), hF⟩
