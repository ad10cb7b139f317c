import PyProof.Rows.All
import HandS.ForMost
import HandS.Walk
import HandS.Defaults
import KE.KDictKeyed
import HandS.TupAny
import HandS.Wide
import HandS.Deep
import KE.GoesEnum
import HandS.MakeKwOnly
import HandS.Style
import HandS.Conv
import PyProof.DictMoreH
import KE.SortData
import KE.KDictSum
import KE.KDictCopyH
import HandS.Head0
import HandS.Head1
import HandS.Head2
import HandS.HeadEnd
import HandS.HeadHook1
import HandS.HeadHook2
import HandS.EndBits
import HandS.DictComp
import HandS.Strs
import HandS.TupSets
import HandS.SetFor
import PyProof.ReprBulk
import PyProof.Rows.ReprOcc
import PyProof.Rows.RegStrFacts
import PyProof.Rows.StrDigitsNeg
import HandS.IsInst
import KE.GoesZip
import KE.GoesMore
import KE.KDictPairs
import PySem.Challenge.RW_strangeseats_k10_rules_and_stands_reache
import HandS.Codes
set_option Elab.async false
set_option linter.all false
set_option maxRecDepth 1000000
set_option maxHeartbeats 4000001
namespace MI
open PySem PySem.Spec L2

/-- the written part, the program, the world -/
structure KX where
  K : PySem.W.Frag
  P : Program
  w : World
def _root_.L2.Cx.kx (X : Cx) : KX := ⟨X.K, X.prog, X.w⟩

/-- data: what a value is, tuples and frozen containers by what is in them -/
inductive D where
  | non | bl (b : Bool) | int (i : Int) | str (x : Str)
  | tup (ds : List D) | lst (ds : List D) | dic (kvs : List (D × D)) | dit (kvs : List (D × D)) | set (ds : List D)
  | obj (n : Nat) | scr (ns : List Int)
instance : Inhabited D := ⟨.non⟩
/-- an object of the store -/
inductive O where
  | lst (ds : List D)
  | ins (c : Nat) (fs : List (Str × D))
abbrev Sto := List O
structure MS where
  sl : List (Option D)
  st : Sto
inductive R (α : Type) where
  | ok (a : α) (m : MS)
  | bad
abbrev Den (α : Type) := MS → R α
@[inline] def Den.bind {α β : Type} (f : Den α) (g : α → Den β) : Den β := fun m => match f m with
  | .ok a m' => g a m'
  | .bad => .bad
theorem bind_ok {α β : Type} {f : Den α} {g : α → Den β} {m : MS} {b : β} {m' : MS} (h : Den.bind f g m = .ok b m') : ∃ a m1, f m = .ok a m1 ∧ g a m1 = .ok b m' := by
  unfold Den.bind at h
  cases e : f m with
  | ok a m1 => rw [e] at h; exact ⟨a, m1, rfl, h⟩
  | bad => rw [e] at h; cases h
@[inline] def Den.ret {α : Type} (a : α) : Den α := fun m => .ok a m
/-- a part that may not be: bad -/
@[inline] def Den.opt {α : Type} (o : Option α) : Den α := fun m => match o with
  | some a => .ok a m
  | none => .bad
theorem opt_ok {α : Type} {o : Option α} {m m' : MS} {a : α} (h : Den.opt o m = .ok a m') : o = some a ∧ m' = m := by
  unfold Den.opt at h
  cases o with
  | none => cases h
  | some b => cases h; exact ⟨rfl, rfl⟩

/-- what an address of the ghost heap is -/
inductive Tag where
  | frz | frm | slot (i : Nat) | st (n : Nat) | fld (n : Nat) (f : Str)
  deriving DecidableEq
abbrev Gh := Addr → Option (Tag × HO)
def Zof (G : Gh) : Hp := fun a => match G a with
  | some (.frz, o) => some o
  | _ => none
theorem zof_of {G : Gh} {a : Addr} {o : HO} (h : G a = some (.frz, o)) : Zof G a = some o := by unfold Zof; rw [h]
theorem of_zof {G : Gh} {a : Addr} {o : HO} (h : Zof G a = some o) : G a = some (.frz, o) := by
  unfold Zof at h
  split at h
  · next x e => rw [e]; cases h; rfl
  · cases h
def putG (G : Gh) (a : Addr) (t : Tag) (o : HO) : Gh := fun b => if b = a then some (t, o) else G b
theorem putG_same {G : Gh} {a : Addr} {t : Tag} {o : HO} : putG G a t o a = some (t, o) := by unfold putG; rw [if_pos rfl]
theorem putG_ne {G : Gh} {a b : Addr} {t : Tag} {o : HO} (h : b ≠ a) : putG G a t o b = G b := by unfold putG; rw [if_neg h]

/-- the key of a dict as data -/
def kD : Key → D
  | .inl i => .int i
  | .inr x => .str x
/-- the dict's very object -/
def rawAt (a : Addr) (o : Obj) : Heap → Prop := fun h => h.get? a = some o
def hoN (a : Addr) (o : Obj) : HO := .ext (rawAt a o)
abbrev XS := List (NestedKey × Addr × Value)
/-- a dict's object whose keys are tuples: its entries -/
structure RawN (K : KX) (a : Addr) (o : Obj) (xs : XS) : Prop where
  len : xs.length ≤ sizeLine
  ns : (a == sysModules) = false
  exact' : o.ExactDict
  ent : ∃ es ep, o.data = .dict es ep ∧ es.toList = xs.map (entryOfKey (nestedKind K.P K.w))
  nd : (xs.map (·.1)).Nodup
  dp : ∀ x ∈ xs, x.1.depth ≤ 8
mutual
def toNK : D → Option NestedKey
  | .non => some .none
  | .int i => some (.num i)
  | .str x => some (.text x)
  | .tup ds => (toNKs ds).map .tup
  | _ => none
def toNKs : List D → Option (List NestedKey)
  | [] => some []
  | d :: ds => match toNK d, toNKs ds with
    | some k, some ks => some (k :: ks)
    | _, _ => none
end
/-- a tuple known to bear no dict -/
def SqN (K : PySem.W.Frag) (Z : Hp) (a : Addr) (xs : List V) : Prop :=
  (∃ o : Obj, o.dict = none ∧ Z a = some (.frz o (.tup xs))) ∨ ∃ (o : Obj) (its : Array Value) (n : Nat), o.dict = none ∧ K.lookup a = some o ∧ o.cls = .type "tuple" ∧ o.data = .seq its n ∧ its.size ≤ sizeLine ∧ Vals xs its.toList
theorem SqN.t {K : PySem.W.Frag} {Z : Hp} {a : Addr} {xs : List V} (h : SqN K Z a xs) : SqT K Z a xs := by
  rcases h with ⟨o, _, h⟩ | ⟨o, its, n, _, h1, h2, h3, h4, h5⟩
  · exact .inl (.inr ⟨o, h⟩)
  · exact .inr ⟨o, its, n, h1, h2, h3, h4, h5⟩
mutual
/-- a value and its data, over the frozen part Z; al: where the store's objects stand -/
inductive DV (K : KX) (Z : Hp) (al : List Addr) : V → D → Prop
  | non : DV K Z al .non .non
  | bl (b : Bool) : DV K Z al (.bl b) (.bl b)
  | int (i : Int) : DV K Z al (.int i) (.int i)
  | str (x : Str) : DV K Z al (.str x) (.str x)
  | tup {a : Addr} {xs : List V} {ds : List D} : SqN K.K Z a xs → DVs K Z al xs ds → DV K Z al (.ref a) (.tup ds)
  | lst {a : Addr} {xs : List V} {ds : List D} : Z a = some (.lst xs) → DVs K Z al xs ds → DV K Z al (.ref a) (.lst ds)
  | scr {a : Addr} {ns : List Int} : SqL K.K Z a (ns.map V.int) → DV K Z al (.ref a) (.scr ns)
  | dicK {a : Addr} {kvs : List (Key × V)} {ds : List (D × D)} : Rd Z a (.dK kvs) → ds.map Prod.fst = kvs.map (fun q => kD q.1) → DVs K Z al (kvs.map Prod.snd) (ds.map Prod.snd) → DV K Z al (.ref a) (.dic ds)
  | ditN {a : Addr} {o : Obj} {xs : XS} {vs : List V} {ds : List (D × D)} : Z a = some (hoN a o) → RawN K a o xs → DVs K Z al (xs.map fun x => V.ref x.2.1) (ds.map Prod.fst) → toNKs (ds.map Prod.fst) = some (xs.map (·.1)) → Vals vs (xs.map (·.2.2)) → DVs K Z al vs (ds.map Prod.snd) → DV K Z al (.ref a) (.dit ds)
  | obj {n : Nat} {a : Addr} : al[n]? = some a → DV K Z al (.ref a) (.obj n)
inductive DVs (K : KX) (Z : Hp) (al : List Addr) : List V → List D → Prop
  | nil : DVs K Z al [] []
  | cons {v : V} {vs : List V} {d : D} {ds : List D} : DV K Z al v d → DVs K Z al vs ds → DVs K Z al (v :: vs) (d :: ds)
end
section
variable {K : KX} {Z Z' : Hp} {al al' : List Addr}
theorem Same.tupN {H H' : Hp} {a : Addr} {xs : List V} (e : Same H H') (h : SqN K.K H a xs) : SqN K.K H' a xs := by
  rcases h with ⟨o, d, h⟩ | h
  · exact .inl ⟨o, d, e _ _ h⟩
  · exact .inr h
theorem Same.tupS {H H' : Hp} {a : Addr} {xs : List V} (e : Same H H') (h : SqN K.K H a xs) : SqT K.K H' a xs := (Same.tupN e h).t
theorem Same.rd {H H' : Hp} {a : Addr} {o : HO} (e : Same H H') (h : Rd H a o) : Rd H' a o := by
  rcases h with h | ⟨u, h⟩
  · exact .inl (e _ _ h)
  · exact .inr ⟨u, e _ _ h⟩
mutual
theorem DV.mono (s : Same Z Z') (p : al <+: al') : ∀ {v : V} {d : D}, DV K Z al v d → DV K Z' al' v d
  | _, _, .non => .non
  | _, _, .bl b => .bl b
  | _, _, .int i => .int i
  | _, _, .str x => .str x
  | _, _, .tup h r => .tup (Same.tupN s h) (DVs.mono s p r)
  | _, _, .lst h r => .lst (s _ _ h) (DVs.mono s p r)
  | _, _, .scr h => .scr (L2.Same.seq s h)
  | _, _, .dicK h e r => .dicK (Same.rd s h) e (DVs.mono s p r)
  | _, _, .ditN h r k n v c => .ditN (s _ _ h) r (DVs.mono s p k) n v (DVs.mono s p c)
  | _, _, .obj h => .obj (by
      obtain ⟨t, rfl⟩ := p
      rw [List.getElem?_append_left (List.getElem?_eq_some_iff.mp h).1]
      exact h)
theorem DVs.mono (s : Same Z Z') (p : al <+: al') : ∀ {vs : List V} {ds : List D}, DVs K Z al vs ds → DVs K Z' al' vs ds
  | _, _, .nil => .nil
  | _, _, .cons h r => .cons (DV.mono s p h) (DVs.mono s p r)
end
theorem DVs.length : ∀ {vs : List V} {ds : List D}, DVs K Z al vs ds → vs.length = ds.length
  | _, _, .nil => rfl
  | _, _, .cons _ r => by rw [List.length_cons, List.length_cons, DVs.length r]
theorem DVs.get : ∀ {vs : List V} {ds : List D} {i : Nat} {d : D}, DVs K Z al vs ds → ds[i]? = some d → ∃ v, vs[i]? = some v ∧ DV K Z al v d
  | _, _, _, _, .nil, h => by simp at h
  | _, _, 0, _, .cons h _, e => by simp at e; subst e; exact ⟨_, rfl, h⟩
  | _, _, i + 1, _, .cons _ r, e => by
    obtain ⟨v, h1, h2⟩ := DVs.get (i := i) r (by simpa using e)
    exact ⟨v, by simpa using h1, h2⟩
theorem DVs.getV : ∀ {vs : List V} {ds : List D} {i : Nat} {v : V}, DVs K Z al vs ds → vs[i]? = some v → ∃ d, ds[i]? = some d ∧ DV K Z al v d
  | _, _, _, _, .nil, h => by simp at h
  | _, _, 0, _, .cons h _, e => by simp at e; subst e; exact ⟨_, rfl, h⟩
  | _, _, i + 1, _, .cons _ r, e => by
    obtain ⟨v, h1, h2⟩ := DVs.getV (i := i) r (by simpa using e)
    exact ⟨v, by simpa using h1, h2⟩
theorem DVs.append : ∀ {vs ws : List V} {ds es : List D}, DVs K Z al vs ds → DVs K Z al ws es → DVs K Z al (vs ++ ws) (ds ++ es)
  | _, _, _, _, .nil, s => s
  | _, _, _, _, .cons h r, s => .cons h (DVs.append r s)
theorem DVs.set {v : V} {d : D} (h : DV K Z al v d) : ∀ {vs : List V} {ds : List D} (i : Nat), DVs K Z al vs ds → DVs K Z al (vs.set i v) (ds.set i d)
  | _, _, _, .nil => .nil
  | _, _, 0, .cons _ r => .cons h r
  | _, _, i + 1, .cons q r => .cons q (DVs.set h i r)
theorem DVs.take : ∀ {vs : List V} {ds : List D} (n : Nat), DVs K Z al vs ds → DVs K Z al (vs.take n) (ds.take n)
  | _, _, 0, _ => .nil
  | _, _, _ + 1, .nil => .nil
  | _, _, n + 1, .cons h r => .cons h (DVs.take n r)
theorem DVs.drop : ∀ {vs : List V} {ds : List D} (n : Nat), DVs K Z al vs ds → DVs K Z al (vs.drop n) (ds.drop n)
  | _, _, 0, r => r
  | _, _, _ + 1, .nil => .nil
  | _, _, n + 1, .cons _ r => DVs.drop n r
end

/-- a container's object and its data -/
def CO (K : KX) (Z : Hp) (al : List Addr) (ad : Addr) : HO → D → Prop
  | .lst xs, .lst ds => DVs K Z al xs ds
  | .ext φ, .dit ds => ∃ (o : Obj) (xs : XS) (vs : List V), φ = rawAt ad o ∧ RawN K ad o xs ∧ DVs K Z al (xs.map fun x => V.ref x.2.1) (ds.map Prod.fst) ∧ toNKs (ds.map Prod.fst) = some (xs.map (·.1)) ∧ Vals vs (xs.map (·.2.2)) ∧ DVs K Z al vs (ds.map Prod.snd)
  | .dK kvs, .dic ds => ds.map Prod.fst = kvs.map (fun q => kD q.1) ∧ DVs K Z al (kvs.map Prod.snd) (ds.map Prod.snd)
  | _, _ => False
theorem CO.mono {K : KX} {Z Z' : Hp} {al al' : List Addr} (s : Same Z Z') (p : al <+: al') : ∀ {a : Addr} {o : HO} {d : D}, CO K Z al a o d → CO K Z' al' a o d := by
  intro a o d h
  unfold CO at h ⊢
  split at h
  · exact DVs.mono s p h
  · obtain ⟨o, xs, vs, h1, h2, h3, h4, h5, h6⟩ := h
    exact ⟨o, xs, vs, h1, h2, DVs.mono s p h3, h4, h5, DVs.mono s p h6⟩
  · exact ⟨h.1, DVs.mono s p h.2⟩
  · exact h.elim
/-- a frozen container is data -/
theorem CO.frz {K : KX} {Z : Hp} {al : List Addr} {a : Addr} {o : HO} {d : D} (h : Z a = some o) (c : CO K Z al a o d) : DV K Z al (.ref a) d := by
  unfold CO at c
  split at c
  · exact .lst h c
  · obtain ⟨o, xs, vs, rfl, h2, h3, h4, h5, h6⟩ := c
    exact .ditN h h2 h3 h4 h5 h6
  · exact .dicK (.inl h) c.1 c.2
  · exact c.elim

/-- how the ghost heap may go on -/
structure Ev (G : Gh) (al : List Addr) (G' : Gh) (al' : List Addr) : Prop where
  frz : ∀ a o, G a = some (.frz, o) → G' a = some (.frz, o)
  frm : ∀ a o, G a = some (.frm, o) → G' a = some (.frm, o)
  al : al <+: al'
theorem Ev.refl {G : Gh} {al : List Addr} : Ev G al G al := ⟨fun _ _ h => h, fun _ _ h => h, List.prefix_refl _⟩
theorem Ev.trans {G G1 G2 : Gh} {al al1 al2 : List Addr} (a : Ev G al G1 al1) (b : Ev G1 al1 G2 al2) : Ev G al G2 al2 :=
  ⟨fun x o h => b.frz x o (a.frz x o h), fun x o h => b.frm x o (a.frm x o h), a.al.trans b.al⟩
theorem Ev.same {G G' : Gh} {al al' : List Addr} (e : Ev G al G' al') : Same (Zof G) (Zof G') := fun _ _ h => zof_of (e.frz _ _ (of_zof h))
theorem DV.ev {K : KX} {G G' : Gh} {al al' : List Addr} {v : V} {d : D} (h : DV K (Zof G) al v d) (e : Ev G al G' al') : DV K (Zof G') al' v d := h.mono e.same e.al
theorem DVs.ev {K : KX} {G G' : Gh} {al al' : List Addr} {v : List V} {d : List D} (h : DVs K (Zof G) al v d) (e : Ev G al G' al') : DVs K (Zof G') al' v d := h.mono e.same e.al

/-- .. of the frozen part alone -/
structure EvZ (G : Gh) (al : List Addr) (G' : Gh) (al' : List Addr) : Prop where
  frz : ∀ a o, G a = some (.frz, o) → G' a = some (.frz, o)
  al : al <+: al'
theorem Ev.z {G G' : Gh} {al al' : List Addr} (e : Ev G al G' al') : EvZ G al G' al' := ⟨e.frz, e.al⟩
theorem EvZ.trans {G G1 G2 : Gh} {al al1 al2 : List Addr} (a : EvZ G al G1 al1) (b : EvZ G1 al1 G2 al2) : EvZ G al G2 al2 := ⟨fun x o h => b.frz x o (a.frz x o h), a.al.trans b.al⟩
theorem EvZ.same {G G' : Gh} {al al' : List Addr} (e : EvZ G al G' al') : Same (Zof G) (Zof G') := fun _ _ h => zof_of (e.frz _ _ (of_zof h))
theorem DVs.evz {K : KX} {G G' : Gh} {al al' : List Addr} {v : List V} {d : List D} (h : DVs K (Zof G) al v d) (e : EvZ G al G' al') : DVs K (Zof G') al' v d := h.mono e.same e.al
theorem DV.evz {K : KX} {G G' : Gh} {al al' : List Addr} {v : V} {d : D} (h : DV K (Zof G) al v d) (e : EvZ G al G' al') : DV K (Zof G') al' v d := h.mono e.same e.al

/-- an object of the store and what stands for it -/
def SO (K : KX) (cls : Nat → Addr) (G : Gh) (al : List Addr) (n : Nat) (a : Addr) : O → Prop
  | .lst ds => ∃ xs, G a = some (.st n, .lst xs) ∧ DVs K (Zof G) al xs ds
  | .ins _ _ => False
/-- the heap's part of the relation -/
structure Hst (K : KX) (cls : Nat → Addr) (G : Gh) (al : List Addr) (st : Sto) (H : Hp) : Prop where
  gh : ∀ a t o, G a = some (t, o) → H a = some o
  len : al.length = st.length
  sto : ∀ n o, st[n]? = some o → ∃ a, al[n]? = some a ∧ SO K cls G al n a o
structure Rst (K : KX) (cls : Nat → Addr) (own : Nat → Bool) (G : Gh) (al : List Addr) (m : MS) (σ : St) (H : Hp) : Prop where
  hst : Hst K cls G al m.st H
  len : σ.length = m.sl.length
  val : ∀ i d, m.sl[i]? = some (some d) → own i = false → ∃ v, σ[i]? = some (some v) ∧ DV K (Zof G) al v d
  own : ∀ i d, m.sl[i]? = some (some d) → own i = true → ∃ a o, σ[i]? = some (some (.ref a)) ∧ G a = some (.slot i, o) ∧ CO K (Zof G) al a o d

theorem Hst.zh {K : KX} {cls : Nat → Addr} {G : Gh} {al : List Addr} {st : Sto} {H : Hp} (h : Hst K cls G al st H) : Same (Zof G) H := fun a o e => h.gh a _ o (of_zof e)
theorem Rst.zh {K : KX} {cls : Nat → Addr} {own : Nat → Bool} {G : Gh} {al : List Addr} {m : MS} {σ : St} {H : Hp} (h : Rst K cls own G al m σ H) : Same (Zof G) H := h.hst.zh

/-- the reading of an expression's denotation -/
def tD (K : KX) (cls : Nat → Addr) (own : Nat → Bool) (f : Den D) : TE := fun σ H Q => ∃ G al m d m', Rst K cls own G al m σ H ∧ f m = .ok d m' ∧
  ∀ G' al' v H', Ev G al G' al' → Rst K cls own G' al' m' σ H' → DV K (Zof G') al' v d → Q v H'
/-- .. of a list of expressions -/
def tDs (K : KX) (cls : Nat → Addr) (own : Nat → Bool) (f : Den (List D)) : TA := fun σ H Q => ∃ G al m d m', Rst K cls own G al m σ H ∧ f m = .ok d m' ∧
  ∀ G' al' v H', Ev G al G' al' → Rst K cls own G' al' m' σ H' → DVs K (Zof G') al' v d → Q v H'
/-- .. of a test -/
def tDb (K : KX) (cls : Nat → Addr) (own : Nat → Bool) (f : Den Bool) : TT := fun σ H Q => ∃ G al m d m', Rst K cls own G al m σ H ∧ f m = .ok d m' ∧
  ∀ G' al' H', Ev G al G' al' → Rst K cls own G' al' m' σ H' → Q d H'
end MI

namespace MI
open PySem PySem.Spec L2

theorem pe_imp {X : Cx} {e : Expr} {t t' : TE} (h : PE X e t) (i : ∀ σ H Q, t' σ H Q → t σ H Q) : PE X e t' := ⟨fun pins s σ H Q I q => h.run pins s σ H Q I (i σ H Q q)⟩
theorem pt_imp {X : Cx} {e : Expr} {t t' : TT} (h : PT X e t) (i : ∀ σ H Q, t' σ H Q → t σ H Q) : PT X e t' := ⟨fun pins s σ H Q I q => h.run pins s σ H Q I (i σ H Q q)⟩
theorem pa_imp {X : Cx} {e : List Expr} {t t' : TA} (h : PA X e t) (i : ∀ σ H Q, t' σ H Q → t σ H Q) : PA X e t' := ⟨fun pos pins s σ H Q I q => h.run pos pins s σ H Q I (i σ H Q q)⟩
theorem ps_imp {X : Cx} {e : Stmt} {t t' : TS} (h : PS X e t) (i : ∀ D σ H, t' D σ H → t D σ H) : PS X e t' := ⟨fun pins s σ H D I q => h.run pins s σ H D I (i D σ H q)⟩
theorem pss_imp {X : Cx} {e : List Stmt} {t t' : TS} (h : PSs X e t) (i : ∀ D σ H, t' D σ H → t D σ H) : PSs X e t' := ⟨fun pins s σ H D I q => h.run pins s σ H D I (i D σ H q)⟩

section
variable {K : KX} {cls : Nat → Addr} {own : Nat → Bool} {G : Gh} {al : List Addr} {m : MS} {σ : St} {H : Hp} {p : Addr} {o : HO} {t : Tag}
/-- a new object beside -/
theorem Hst.fresh {st : Sto} (r : Hst K cls G al st H) (h : H p = none) : Hst K cls G al st (upd H p o) :=
  ⟨fun a t u e => by
    have : H a = some u := r.gh a t u e
    rw [upd_ne (ne_of_none this h)]; exact this, r.len, r.sto⟩
theorem Rst.fresh (r : Rst K cls own G al m σ H) (h : H p = none) : Rst K cls own G al m σ (upd H p o) := ⟨r.hst.fresh h, r.len, r.val, r.own⟩
theorem Hst.nog {st : Sto} (r : Hst K cls G al st H) (h : H p = none) : G p = none := by
  cases e : G p with
  | none => rfl
  | some x => obtain ⟨t, u⟩ := x; rw [r.gh p t u e] at h; cases h
theorem ev_put (h : G p = none) : Ev G al (putG G p t o) al := by
  have ne : ∀ {a x}, G a = some x → a ≠ p := fun e z => by subst z; rw [h] at e; cases e
  exact ⟨fun a o e => by rw [putG_ne (ne e)]; exact e, fun a o e => by rw [putG_ne (ne e)]; exact e, List.prefix_refl _⟩
theorem SO.put {n : Nat} {a : Addr} {ob : O} (h : G p = none) (s : SO K cls G al n a ob) : SO K cls (putG G p t o) al n a ob := by
  unfold SO at s ⊢
  cases ob with
  | lst ds =>
    obtain ⟨xs, e, r⟩ := s
    refine ⟨xs, ?_, r.ev (ev_put h)⟩
    rw [putG_ne (by intro z; subst z; rw [h] at e; cases e)]; exact e
  | ins c fs => exact s
/-- it is told what it is -/
theorem Hst.tag {st : Sto} (r : Hst K cls G al st H) (h : G p = none) (ho : H p = some o) : Hst K cls (putG G p t o) al st H := by
  refine ⟨fun a t' u e => ?_, r.len, fun n ob e => ?_⟩
  · by_cases hp : a = p
    · subst hp; rw [putG_same] at e; cases e; exact ho
    · rw [putG_ne hp] at e; exact r.gh a t' u e
  · obtain ⟨a, h1, h2⟩ := r.sto n ob e
    exact ⟨a, h1, h2.put h⟩
theorem Rst.tag (r : Rst K cls own G al m σ H) (h : G p = none) (ho : H p = some o) : Rst K cls own (putG G p t o) al m σ H := by
  refine ⟨r.hst.tag h ho, r.len, fun i d e f => ?_, fun i d e f => ?_⟩
  · obtain ⟨v, h1, h2⟩ := r.val i d e f
    exact ⟨v, h1, h2.ev (ev_put h)⟩
  · obtain ⟨a, ob, h1, h2, h3⟩ := r.own i d e f
    have ev : Ev G al (putG G p t o) al := ev_put h
    refine ⟨a, ob, h1, ?_, h3.mono ev.same ev.al⟩
    rw [putG_ne (by intro z; subst z; rw [h] at h2; cases h2)]; exact h2
end

/-! ### handles -/
inductive Hd where
  | val (d : D)
  | slot (i : Nat)
def look : Hd → MS → Option D
  | .slot i, m => match m.sl[i]? with
    | some (some d) => some d
    | _ => none
  | .val (.obj n), m => match m.st[n]? with
    | some (.lst ds) => some (.lst ds)
    | some (.ins _ _) => some (.obj n)
    | none => none
  | .val d, _ => some d
def HV (K : KX) (own : Nat → Bool) (G : Gh) (al : List Addr) (σ : St) (v : V) : Hd → Prop
  | .val d => DV K (Zof G) al v d
  | .slot i => own i = true ∧ σ[i]? = some (some v)
theorem HV.ev {K : KX} {own : Nat → Bool} {G G' : Gh} {al al' : List Addr} {σ : St} {v : V} {h : Hd} (r : HV K own G al σ v h) (e : Ev G al G' al') : HV K own G' al' σ v h := by
  cases h with
  | val d => exact DV.ev r e
  | slot i => exact r
/-- what is to be read at a value now -/
def CR (K : KX) (H Z : Hp) (al : List Addr) (v : V) : D → Prop
  | .lst ds => ∃ a xs, v = .ref a ∧ H a = some (.lst xs) ∧ DVs K Z al xs ds
  | .dic ds => ∃ (a : Addr) (kvs : List (Key × V)), v = .ref a ∧ Rd H a (.dK kvs) ∧ ds.map Prod.fst = kvs.map (fun q => kD q.1) ∧ DVs K Z al (kvs.map Prod.snd) (ds.map Prod.snd)
  | .dit ds => ∃ (a : Addr) (o : Obj) (xs : XS) (vs : List V), v = .ref a ∧ H a = some (hoN a o) ∧ RawN K a o xs ∧ DVs K Z al (xs.map fun x => V.ref x.2.1) (ds.map Prod.fst) ∧ toNKs (ds.map Prod.fst) = some (xs.map (·.1)) ∧ Vals vs (xs.map (·.2.2)) ∧ DVs K Z al vs (ds.map Prod.snd)
  | d => DV K Z al v d
theorem DV.cr {K : KX} {H Z : Hp} {al : List Addr} {v : V} {d : D} (s : Same Z H) (h : DV K Z al v d) : CR K H Z al v d := by
  cases d with
  | lst ds => cases h with | lst h r => exact ⟨_, _, rfl, s _ _ h, r⟩
  | dic ds => cases h with
    | dicK h e r => exact ⟨_, _, rfl, Same.rd s h, e, r⟩
  | dit ds => cases h with
    | ditN h1 h2 h3 h4 h5 h6 => exact ⟨_, _, _, _, rfl, s _ _ h1, h2, h3, h4, h5, h6⟩
  | _ => exact h
theorem CO.cr {K : KX} {H Z : Hp} {al : List Addr} {a : Addr} {o : HO} {d : D} (h : H a = some o) (c : CO K Z al a o d) : CR K H Z al (.ref a) d := by
  unfold CO at c
  split at c
  · exact ⟨_, _, rfl, h, c⟩
  · obtain ⟨o, xs, vs, rfl, h2, h3, h4, h5, h6⟩ := c
    exact ⟨a, o, xs, vs, rfl, h, h2, h3, h4, h5, h6⟩
  · exact ⟨_, _, rfl, .inl h, c.1, c.2⟩
  · exact c.elim
theorem look_cr {K : KX} {cls : Nat → Addr} {own : Nat → Bool} {G : Gh} {al : List Addr} {m : MS} {σ : St} {H : Hp} {v : V} {h : Hd} {d : D} (r : Rst K cls own G al m σ H) (hv : HV K own G al σ v h) (e : look h m = some d) :
    CR K H (Zof G) al v d := by
  cases h with
  | slot i =>
    obtain ⟨ho, hs⟩ := hv
    simp only [look] at e
    split at e
    · next d' e' =>
      cases e
      obtain ⟨a, ob, h1, h2, h3⟩ := r.own i d e' ho
      rw [hs] at h1; cases h1
      exact h3.cr (r.hst.gh a _ ob h2)
    · cases e
  | val d0 =>
    have hv : DV K (Zof G) al v d0 := hv
    cases d0 with
    | obj n =>
      simp only [look] at e
      split at e
      · next ds e' =>
        cases e
        cases hv with
        | obj ha =>
          obtain ⟨a, h1, xs, h2, h3⟩ := r.hst.sto n _ e'
          rw [ha] at h1; cases h1
          exact ⟨_, xs, rfl, r.hst.gh _ _ _ h2, h3⟩
      · next c fs e' => cases e; exact hv
      · cases e
    | _ => simp only [look] at e; cases e; exact hv.cr r.zh

/-- the reading of a handle's denotation -/
def tH (K : KX) (cls : Nat → Addr) (own : Nat → Bool) (f : Den Hd) : TE := fun σ H Q => ∃ G al m d m', Rst K cls own G al m σ H ∧ f m = .ok d m' ∧
  ∀ G' al' v H', Ev G al G' al' → Rst K cls own G' al' m' σ H' → HV K own G' al' σ v d → Q v H'
/-- of a fresh container's -/
def tF (K : KX) (cls : Nat → Addr) (own : Nat → Bool) (f : Den D) : TE := fun σ H Q => ∃ G al m d m', Rst K cls own G al m σ H ∧ f m = .ok d m' ∧
  ∀ G' al' p o H', Ev G al G' al' → Rst K cls own G' al' m' σ H' → H' p = some o → G' p = none → CO K (Zof G') al' p o d → Q (.ref p) H'
inductive HVs (K : KX) (own : Nat → Bool) (G : Gh) (al : List Addr) (σ : St) : List V → List Hd → Prop
  | nil : HVs K own G al σ [] []
  | cons {v : V} {vs : List V} {h : Hd} {hs : List Hd} : HV K own G al σ v h → HVs K own G al σ vs hs → HVs K own G al σ (v :: vs) (h :: hs)
/-- of an argument list's -/
def tHs (K : KX) (cls : Nat → Addr) (own : Nat → Bool) (f : Den (List Hd)) : TA := fun σ H Q => ∃ G al m d m', Rst K cls own G al m σ H ∧ f m = .ok d m' ∧
  ∀ G' al' v H', Ev G al G' al' → Rst K cls own G' al' m' σ H' → HVs K own G' al' σ v d → Q v H'
theorem HVs.ev {K : KX} {own : Nat → Bool} {G G' : Gh} {al al' : List Addr} {σ : St} (e : Ev G al G' al') : ∀ {vs : List V} {hs : List Hd}, HVs K own G al σ vs hs → HVs K own G' al' σ vs hs
  | _, _, .nil => .nil
  | _, _, .cons h r => .cons (h.ev e) (HVs.ev e r)

section
variable (cls : Nat → Addr) (own : Nat → Bool) (X : Cx)
abbrev SE (e : Expr) (f : Den D) : Prop := PE X e (tD X.kx cls own f)
abbrev SF (e : Expr) (f : Den D) : Prop := PE X e (tF X.kx cls own f)
abbrev SH (e : Expr) (f : Den Hd) : Prop := PE X e (tH X.kx cls own f)
abbrev SB (e : Expr) (f : Den Bool) : Prop := PT X e (tDb X.kx cls own f)
abbrev SHs (es : List Expr) (f : Den (List Hd)) : Prop := PA X es (tHs X.kx cls own f)
end

/-! ### the denotations -/
def eVar (i : Nat) : Den D := fun m => match m.sl[i]? with
  | some (some d) => .ok d m
  | _ => .bad
def eC (d : D) : Den D := fun m => .ok d m
def hSlot (i : Nat) : Den Hd := fun m => match m.sl[i]? with
  | some (some _) => .ok (.slot i) m
  | _ => .bad
def hVal (f : Den D) : Den Hd := f.bind fun d => .ret (.val d)
def aNil : Den (List Hd) := .ret []
def aCons (f : Den Hd) (r : Den (List Hd)) : Den (List Hd) := f.bind fun d => r.bind fun ds => .ret (d :: ds)
/-- an owned slot is given away: frozen -/
def eMove (i : Nat) : Den D := fun m => match m.sl[i]? with
  | some (some d) => .ok d { m with sl := m.sl.set i none }
  | _ => .bad
/-- a function of two values, read at the end -/
def eOp (g : D → D → Option D) (fa fb : Den Hd) : Den D := fa.bind fun a => fb.bind fun b => fun m => match look a m, look b m with
  | some x, some y => match g x y with
    | some z => .ok z m
    | none => .bad
  | _, _ => .bad
def eUn (g : D → Option D) (fa : Den Hd) : Den D := fa.bind fun a => fun m => match look a m with
  | some x => match g x with
    | some z => .ok z m
    | none => .bad
  | none => .bad
def looks (hs : List Hd) (m : MS) : Option (List D) := hs.mapM (look · m)
/-- a built-in of several values -/
def eFn (g : List D → Option D) (fa : Den (List Hd)) : Den D := fa.bind fun hs => fun m => match looks hs m with
  | some xs => match g xs with
    | some z => .ok z m
    | none => .bad
  | none => .bad

section
variable {cls : Nat → Addr} {own : Nat → Bool} {X : Cx}
/-- fresh things frozen -/
theorem se_of {e : Expr} {f : Den D} (h : SF cls own X e f) : SE cls own X e f := by
  refine pe_imp h fun σ H Q q => ?_
  obtain ⟨G, al, m, d, m', r, e, k⟩ := q
  refine ⟨G, al, m, d, m', r, e, fun G' al' p o H' ev r' hp hn c => ?_⟩
  have ev2 : Ev G' al' (putG G' p .frz o) al' := ev_put hn
  exact k (putG G' p .frz o) al' (.ref p) H' (ev.trans ev2) (r'.tag hn hp) (CO.frz (zof_of putG_same) (c.mono ev2.same ev2.al))
theorem sh_val {e : Expr} {f : Den D} (h : SE cls own X e f) : SH cls own X e (hVal f) := by
  refine pe_imp h fun σ H Q q => ?_
  obtain ⟨G, al, m, d, m', r, e, k⟩ := q
  obtain ⟨d0, m1, e1, e2⟩ := bind_ok e
  cases e2
  exact ⟨G, al, m, d0, _, r, e1, fun G' al' v H' ev r' hv => k G' al' v H' ev r' hv⟩
theorem sh_slot {i : Nat} {x : Str} {pos : Pos} (hN : X.N[i]? = some x) (hv : Vis X.env.scope x) (ho : own i = true) (hd : (x == ("__debug__" : Str)) = false := by decide) (hcd : (x == ("__classdict__" : Str)) = false := by decide) :
    SH cls own X (.Name x pos) (hSlot i) := by
  refine pe_imp (pe_var hN hv hd hcd) fun σ H Q q => ?_
  obtain ⟨G, al, m, d, m', r, e, k⟩ := q
  unfold hSlot at e
  split at e
  · next d' e' =>
    cases e
    obtain ⟨a, ob, h1, h2, h3⟩ := r.own i d' e' ho
    exact ⟨.ref a, h1, k G al _ H .refl r ⟨ho, h1⟩⟩
  · cases e
theorem se_var {i : Nat} {x : Str} {pos : Pos} (hN : X.N[i]? = some x) (hv : Vis X.env.scope x) (ho : own i = false) (hd : (x == ("__debug__" : Str)) = false := by decide) (hcd : (x == ("__classdict__" : Str)) = false := by decide) :
    SE cls own X (.Name x pos) (eVar i) := by
  refine pe_imp (pe_var hN hv hd hcd) fun σ H Q q => ?_
  obtain ⟨G, al, m, d, m', r, e, k⟩ := q
  unfold eVar at e
  split at e
  · next d' e' =>
    cases e
    obtain ⟨v, h1, h2⟩ := r.val i d e' ho
    exact ⟨v, h1, k G al v H .refl r h2⟩
  · cases e
theorem se_int {i j pos} : SE cls own X (.Constant (.int i) j pos) (eC (.int i)) := pe_imp pe_int fun σ H Q ⟨G, al, m, d, m', r, e, k⟩ => by cases e; exact k G al _ H .refl r (.int i)
theorem se_str {i j pos} : SE cls own X (.Constant (.str i) j pos) (eC (.str i)) := pe_imp pe_str fun σ H Q ⟨G, al, m, d, m', r, e, k⟩ => by cases e; exact k G al _ H .refl r (.str i)
theorem se_bl {i j pos} : SE cls own X (.Constant (.bool i) j pos) (eC (.bl i)) := pe_imp pe_bl fun σ H Q ⟨G, al, m, d, m', r, e, k⟩ => by cases e; exact k G al _ H .refl r (.bl i)
theorem se_non {j pos} : SE cls own X (.Constant .none j pos) (eC .non) := pe_imp pe_non fun σ H Q ⟨G, al, m, d, m', r, e, k⟩ => by cases e; exact k G al _ H .refl r .non
/-! arguments -/
theorem sa_nil : SHs cls own X [] aNil := pa_imp pa_nil fun σ H Q ⟨G, al, m, d, m', r, e, k⟩ => by cases e; exact k G al _ H .refl r .nil
theorem sa_cons {e : Expr} {es : List Expr} {f : Den Hd} {fr : Den (List Hd)} (h : SH cls own X e f) (hr : SHs cls own X es fr) (hs : starEach (e :: es) X.env = (false, eval e X.env) :: starEach es X.env := by rfl) : SHs cls own X (e :: es) (aCons f fr) := by
  refine pa_imp (pa_cons h hr hs) fun σ H Q q => ?_
  obtain ⟨G, al, m, d, m', r, e, k⟩ := q
  obtain ⟨d0, m1, e1, e2⟩ := bind_ok e
  obtain ⟨ds, m2, e3, e4⟩ := bind_ok e2
  cases e4
  refine ⟨G, al, m, d0, m1, r, e1, fun G' al' v H' ev r' hv => ?_⟩
  exact ⟨G', al', m1, ds, _, r', e3, fun G2 al2 vs H2 ev2 r2 hvs => k G2 al2 _ H2 (ev.trans ev2) r2 (.cons (hv.ev ev2) hvs)⟩
end
end MI

namespace MI
open PySem PySem.Spec L2

section
variable (K : KX) (cls : Nat → Addr) (own : Nat → Bool) (G : Gh) (al : List Addr) (m : MS) (σ : St)
def Post (d : D) (Q : VK) : Prop := ∀ G' al' v H', Ev G al G' al' → Rst K cls own G' al' m σ H' → DV K (Zof G') al' v d → Q v H'
def PostF (d : D) (Q : VK) : Prop := ∀ G' al' p o H', Ev G al G' al' → Rst K cls own G' al' m σ H' → H' p = some o → G' p = none → CO K (Zof G') al' p o d → Q (.ref p) H'
end
section
variable {K : KX} {cls : Nat → Addr} {own : Nat → Bool} {G : Gh} {al : List Addr} {m : MS} {σ : St} {H : Hp} {d : D} {Q : VK} {v : V} {p : Addr}
theorem Post.keep (k : Post K cls own G al m σ d Q) (r : Rst K cls own G al m σ H) (h : DV K (Zof G) al v d) : Q v H := k G al v H .refl r h
theorem Post.tup {xs : List V} {ds : List D} (k : Post K cls own G al m σ (.tup ds) Q) (r : Rst K cls own G al m σ H) (h : DVs K (Zof G) al xs ds) {ob : Obj} (hp : H p = none) (hd : ob.dict = none) : Q (.ref p) (upd H p (.frz ob (.tup xs))) := by
  have hn := r.hst.nog hp
  have ev : Ev G al (putG G p .frz (.frz ob (.tup xs))) al := ev_put hn
  exact k _ al _ _ ev ((r.fresh hp).tag hn upd_same) (.tup (.inl ⟨ob, hd, zof_of putG_same⟩) (h.ev ev))
theorem PostF.lst {xs : List V} {ds : List D} (k : PostF K cls own G al m σ (.lst ds) Q) (r : Rst K cls own G al m σ H) (h : DVs K (Zof G) al xs ds) (hp : H p = none) : Q (.ref p) (upd H p (.lst xs)) :=
  k G al p _ _ .refl (r.fresh hp) upd_same (r.hst.nog hp) h
end

/-! ### new tuples, known to bear no dict -/
def newT (us : List Value) : Obj := { cls := .type "tuple", data := .seq us.toArray }
theorem newT_ok {P : Program} {w : World} {H' : Hp} {h : Heap} {a : Addr} {xs : List V} {us : List Value} (z : xs.length ≤ sizeLine) (r : Vals xs us) (e : h.get? a = some (newT us)) : ObjOk P w H' h a (.frz (newT us) (.tup xs)) :=
  ⟨e, z, us, r, ⟨_, e, rfl, _, rfl⟩⟩
section
variable {X : Cx} {es : List Expr} {t : TA} {pos : Pos}
def tTupF (t : TA) : TE := fun σ H Q => t σ H fun xs H1 => xs.length ≤ sizeLine ∧ ∀ p ob, H1 p = none → ob.dict = none → Q (.ref p) (upd H1 p (.frz ob (.tup xs)))
theorem pe_tupF {x1} (h : PA X es t) : PE X (.Tuple es x1 pos) (tTupF t) := by
  refine ⟨fun pins s σ H Q I hq => ?_⟩
  refine wpAny_Tuple_spliced (thn (h.run pos pins s σ H _ I hq) fun us s1 ⟨xs, H1, I1, r, z, q⟩ => ⟨by rw [← r.length]; exact z, ?_⟩)
  exact ⟨.ref s1.heap.objs.size, _, I1.laid (o := .frz (newT us) (.tup xs)) (t' := s1.toks) (fun b u e => Heap.get?_push_of_some _ e) (Nat.le_refl _) (newT_ok z r (Heap.get?_push_size _ rfl)), rfl, q _ _ (I1.hok.fresh (Nat.le_refl _)) rfl⟩
def rTupleF (K : PySem.W.Frag) : List V → Hp → VK → Prop := fun xs H Q => ∃ p ys, xs = [.ref p] ∧ ((SqL K H p ys ∧ ∀ l ob, H l = none → ob.dict = none → Q (.ref l) (upd H l (.frz ob (.tup ys)))) ∨ (SqT K H p ys ∧ Q (.ref p) H))
theorem cr_tupleF : CallR X (.type "tuple") (rTupleF X.K) := by
  intro pins s σ H xs us Q I r h
  obtain ⟨p, ys, rfl, h⟩ := h
  obtain ⟨u, rfl, rx⟩ := vals1 r
  cases rx
  rcases h with ⟨hq, q⟩ | ⟨hq, q⟩
  · obtain ⟨its, rv, pl, hz⟩ := I.list hq
    refine call_tuple_list pl.isList (fun h' kp => ?_) (by rw [List.size_toArray, ← rv.length]; exact hz)
    have I1 : Inv X pins σ H { s with heap := h' } := I.kept (t' := s.toks) kp
    exact ⟨.ref h'.objs.size, _, I1.laid (o := .frz (newT its) (.tup ys)) (t' := s.toks) (fun b o e => Heap.get?_push_of_some _ e) (Nat.le_refl _) (newT_ok hz rv (Heap.get?_push_size _ rfl)), rfl, q _ _ (I1.hok.fresh (Nat.le_refl _)) rfl⟩
  · obtain ⟨its, rv, pl, hz⟩ := I.tuple hq
    exact call_tuple_same pl ⟨.ref p, H, I, rfl, q⟩
def rCatF (K : PySem.W.Frag) : R2 := fun x y H Q => ∃ a b xs ys, x = .ref a ∧ y = .ref b ∧ SqT K H a xs ∧ SqT K H b ys ∧ xs.length + ys.length ≤ sizeLine ∧
  (xs = [] → Q (.ref b) H) ∧ (xs ≠ [] → ys = [] → Q (.ref a) H) ∧ (xs ≠ [] → ys ≠ [] → ∀ p ob, H p = none → ob.dict = none → Q (.ref p) (upd H p (.frz ob (.tup (xs ++ ys)))))
theorem op_catF : OpR X (binaryOp .Add) (rCatF X.K) := by
  intro pins s σ H x y v u Q I rx ry h
  obtain ⟨a, b, xs, ys, rfl, rfl, ha, hb, hz, q0, q1, q2⟩ := h
  cases rx
  cases ry
  obtain ⟨its, r1, p1, _⟩ := I.tuple ha
  obtain ⟨its2, r2, p2, _⟩ := I.tuple hb
  by_cases hx : xs = []
  · subst hx
    cases r1
    exact L2.cat_tup0 p1 p2 ⟨.ref b, H, I, rfl, q0 rfl⟩
  · refine HT.cat_tup p1 p2 (fun z => hx (r1.nil_iff.mp z)) (fun z => ⟨.ref a, H, I, rfl, q1 hx (r2.nil_iff.mp z)⟩) (fun z => ?_) (by rw [← r1.length, ← r2.length]; exact hz)
    refine ⟨.ref s.heap.objs.size, _, I.laid (t' := s.toks) (o := .frz (newT (its ++ its2)) (.tup (xs ++ ys))) (fun b ob q => Heap.get?_push_of_some _ q) (Nat.le_refl _) (newT_ok (by rw [List.length_append]; exact hz) (r1.append r2) ?_), rfl, q2 hx (fun w => z (r2.nil_iff.mpr w)) _ _ (I.hok.fresh (Nat.le_refl _)) rfl⟩
    exact Heap.get?_push_size _ rfl
end
/-- a rule of two values keeps to g -/
def OpOk (K : KX) (cls : Nat → Addr) (own : Nat → Bool) (r : R2) (g : D → D → Option D) : Prop :=
  ∀ G al m σ H x y da db d Q, Rst K cls own G al m σ H → CR K H (Zof G) al x da → CR K H (Zof G) al y db → g da db = some d → Post K cls own G al m σ d Q → r x y H Q
def UnOk (K : KX) (cls : Nat → Addr) (own : Nat → Bool) (r : V → Hp → VK → Prop) (g : D → Option D) : Prop :=
  ∀ G al m σ H x da d Q, Rst K cls own G al m σ H → CR K H (Zof G) al x da → g da = some d → Post K cls own G al m σ d Q → r x H Q
inductive CRs (K : KX) (H Z : Hp) (al : List Addr) : List V → List D → Prop
  | nil : CRs K H Z al [] []
  | cons {v : V} {vs : List V} {d : D} {ds : List D} : CR K H Z al v d → CRs K H Z al vs ds → CRs K H Z al (v :: vs) (d :: ds)
theorem looks_cr {K : KX} {cls : Nat → Addr} {own : Nat → Bool} {G : Gh} {al : List Addr} {m : MS} {σ : St} {H : Hp} (r : Rst K cls own G al m σ H) : ∀ {vs : List V} {hs : List Hd} {ds : List D},
    HVs K own G al σ vs hs → looks hs m = some ds → CRs K H (Zof G) al vs ds
  | _, _, ds, .nil, e => by
    have e : some [] = some ds := e
    cases e; exact .nil
  | _, _, ds, .cons (h := h) (hs := hs) hv hr, e => by
    unfold looks at e
    rw [List.mapM_cons] at e
    cases e1 : look h m with
    | none => rw [e1] at e; cases e
    | some d =>
      rw [e1] at e
      cases e2 : hs.mapM (look · m) with
      | none => simp [e2] at e
      | some ds2 =>
        simp [e2] at e
        subst e
        exact .cons (look_cr r hv e1) (looks_cr r hr e2)
def FnOkD (K : KX) (cls : Nat → Addr) (own : Nat → Bool) (r : List V → Hp → VK → Prop) (g : List D → Option D) : Prop :=
  ∀ G al m σ H xs da d Q, Rst K cls own G al m σ H → CRs K H (Zof G) al xs da → g da = some d → Post K cls own G al m σ d Q → r xs H Q
def FnOkF (K : KX) (cls : Nat → Addr) (own : Nat → Bool) (r : List V → Hp → VK → Prop) (g : List D → Option D) : Prop :=
  ∀ G al m σ H xs da d Q, Rst K cls own G al m σ H → CRs K H (Zof G) al xs da → g da = some d → PostF K cls own G al m σ d Q → r xs H Q
def OpOkF (K : KX) (cls : Nat → Addr) (own : Nat → Bool) (r : R2) (g : D → D → Option D) : Prop :=
  ∀ G al m σ H x y da db d Q, Rst K cls own G al m σ H → CR K H (Zof G) al x da → CR K H (Zof G) al y db → g da db = some d → PostF K cls own G al m σ d Q → r x y H Q

section
variable {cls : Nat → Addr} {own : Nat → Bool} {X : Cx} {a b : Expr} {fa fb : Den Hd} {pos : Pos}
theorem eOp_ok {g : D → D → Option D} {m m' : MS} {d : D} (e : eOp g fa fb m = .ok d m') : ∃ h1 m1 h2 x y, fa m = .ok h1 m1 ∧ fb m1 = .ok h2 m' ∧ look h1 m' = some x ∧ look h2 m' = some y ∧ g x y = some d := by
  obtain ⟨h1, m1, e1, e⟩ := bind_ok e
  obtain ⟨h2, m2, e2, e⟩ := bind_ok e
  split at e
  · next x y l1 l2 =>
    split at e
    · next z gz => cases e; exact ⟨h1, m1, h2, x, y, e1, e2, l1, l2, gz⟩
    · cases e
  · cases e
theorem eUn_ok {g : D → Option D} {m m' : MS} {d : D} (e : eUn g fa m = .ok d m') : ∃ h1 x, fa m = .ok h1 m' ∧ look h1 m' = some x ∧ g x = some d := by
  obtain ⟨h1, m1, e1, e⟩ := bind_ok e
  split at e
  · next x l1 =>
    split at e
    · next z gz => cases e; exact ⟨h1, x, e1, l1, gz⟩
    · cases e
  · cases e
theorem eFn_ok {g : List D → Option D} {fs : Den (List Hd)} {m m' : MS} {d : D} (e : eFn g fs m = .ok d m') : ∃ hs xs, fs m = .ok hs m' ∧ looks hs m' = some xs ∧ g xs = some d := by
  obtain ⟨h1, m1, e1, e⟩ := bind_ok e
  split at e
  · next x l1 =>
    split at e
    · next z gz => cases e; exact ⟨h1, x, e1, l1, gz⟩
    · cases e
  · cases e
theorem se_op2 {op : Operator} {r : R2} {g : D → D → Option D} (ho : OpR X (binaryOp op) r) (hg : OpOk X.kx cls own r g) (ha : SH cls own X a fa) (hb : SH cls own X b fb) : SE cls own X (.BinOp a op b pos) (eOp g fa fb) := by
  refine pe_imp (pe_op ho ha hb) fun σ H Q q => ?_
  obtain ⟨G, al, m, d, m', r, e, k⟩ := q
  obtain ⟨h1, m1, h2, x, y, e1, e2, l1, l2, gz⟩ := eOp_ok e
  refine ⟨G, al, m, h1, m1, r, e1, fun G1 al1 v H1 ev1 r1 hv1 => ⟨G1, al1, m1, h2, m', r1, e2, fun G2 al2 u H2 ev2 r2 hv2 => ?_⟩⟩
  exact hg G2 al2 m' σ H2 v u x y d Q r2 (look_cr r2 (hv1.ev ev2) l1) (look_cr r2 hv2 l2) gz fun G3 al3 w H3 ev3 r3 dv => k G3 al3 w H3 ((ev1.trans ev2).trans ev3) r3 dv
theorem sf_op2 {op : Operator} {r : R2} {g : D → D → Option D} (ho : OpR X (binaryOp op) r) (hg : OpOkF X.kx cls own r g) (ha : SH cls own X a fa) (hb : SH cls own X b fb) : SF cls own X (.BinOp a op b pos) (eOp g fa fb) := by
  refine pe_imp (pe_op ho ha hb) fun σ H Q q => ?_
  obtain ⟨G, al, m, d, m', r, e, k⟩ := q
  obtain ⟨h1, m1, h2, x, y, e1, e2, l1, l2, gz⟩ := eOp_ok e
  refine ⟨G, al, m, h1, m1, r, e1, fun G1 al1 v H1 ev1 r1 hv1 => ⟨G1, al1, m1, h2, m', r1, e2, fun G2 al2 u H2 ev2 r2 hv2 => ?_⟩⟩
  exact hg G2 al2 m' σ H2 v u x y d Q r2 (look_cr r2 (hv1.ev ev2) l1) (look_cr r2 hv2 l2) gz fun G3 al3 w ob H3 ev3 r3 hp hn c => k G3 al3 w ob H3 ((ev1.trans ev2).trans ev3) r3 hp hn c
theorem se_cmp {op : CmpOp} {r : R2} {g : D → D → Option D} (ho : OpR X (compareOp op) r) (hg : OpOk X.kx cls own r g) (ha : SH cls own X a fa) (hb : SH cls own X b fb) (hm : behindInMarks op b = false := by first | exact nobehind _ (by decide) (by decide) | rfl) :
    SE cls own X (.Compare a [op] [b] pos) (eOp g fa fb) := by
  refine pe_imp (pe_cmpR ho ha hb hm) fun σ H Q q => ?_
  obtain ⟨G, al, m, d, m', r, e, k⟩ := q
  obtain ⟨h1, m1, h2, x, y, e1, e2, l1, l2, gz⟩ := eOp_ok e
  refine ⟨G, al, m, h1, m1, r, e1, fun G1 al1 v H1 ev1 r1 hv1 => ⟨G1, al1, m1, h2, m', r1, e2, fun G2 al2 u H2 ev2 r2 hv2 => ?_⟩⟩
  exact hg G2 al2 m' σ H2 v u x y d Q r2 (look_cr r2 (hv1.ev ev2) l1) (look_cr r2 hv2 l2) gz fun G3 al3 w H3 ev3 r3 dv => k G3 al3 w H3 ((ev1.trans ev2).trans ev3) r3 dv
theorem se_un {op : UnaryOp} {r : V → Hp → VK → Prop} {g : D → Option D} (ho : UnR X (unaryOp op) r) (hg : UnOk X.kx cls own r g) (ha : SH cls own X a fa) : SE cls own X (.UnaryOp op a pos) (eUn g fa) := by
  refine pe_imp (pe_un ho ha) fun σ H Q q => ?_
  obtain ⟨G, al, m, d, m', r, e, k⟩ := q
  obtain ⟨h1, x, e1, l1, gz⟩ := eUn_ok e
  refine ⟨G, al, m, h1, m', r, e1, fun G1 al1 v H1 ev1 r1 hv1 => ?_⟩
  exact hg G1 al1 m' σ H1 v x d Q r1 (look_cr r1 hv1 l1) gz fun G3 al3 w H3 ev3 r3 dv => k G3 al3 w H3 (ev1.trans ev3) r3 dv
/-- a built-in function by its name -/
theorem se_callB {x : Str} {p : Pos} {id : String} {es : List Expr} {r : List V → Hp → VK → Prop} {g : List D → Option D} {fs : Den (List Hd)} (hc : CallR X (.builtin id) r) (hg : FnOkD X.kx cls own r g) (hgl : Gl X x) (hm : X.mg x = none) (hv : bootBuiltins x = some (.builtin id)) (ha : SHs cls own X (a :: es) fs)
    (hn : x ≠ "__name__" := by decide) (hdb : (x == ("__debug__" : Str)) = false := by decide)
    (he : starEach (a :: es) X.env = (false, eval a X.env) :: starEach es X.env := by rfl) (hpl : (backTo pos (starEach es X.env)).any (·.1) = false := by rfl) : SE cls own X (.Call (.Name x p) (a :: es) [] pos) (eFn g fs) := by
  refine pe_imp (pe_callB hc hgl hm hv ha hn hdb he hpl) fun σ H Q q => ?_
  obtain ⟨G, al, m, d, m', r, e, k⟩ := q
  obtain ⟨hs, xs, e1, l1, gz⟩ := eFn_ok e
  refine ⟨G, al, m, hs, m', r, e1, fun G1 al1 v H1 ev1 r1 hv1 => ?_⟩
  exact hg G1 al1 m' σ H1 v xs d Q r1 (looks_cr r1 hv1 l1) gz fun G3 al3 w H3 ev3 r3 dv => k G3 al3 w H3 (ev1.trans ev3) r3 dv
theorem sf_callB {x : Str} {p : Pos} {id : String} {es : List Expr} {r : List V → Hp → VK → Prop} {g : List D → Option D} {fs : Den (List Hd)} (hc : CallR X (.builtin id) r) (hg : FnOkF X.kx cls own r g) (hgl : Gl X x) (hm : X.mg x = none) (hv : bootBuiltins x = some (.builtin id)) (ha : SHs cls own X (a :: es) fs)
    (hn : x ≠ "__name__" := by decide) (hdb : (x == ("__debug__" : Str)) = false := by decide)
    (he : starEach (a :: es) X.env = (false, eval a X.env) :: starEach es X.env := by rfl) (hpl : (backTo pos (starEach es X.env)).any (·.1) = false := by rfl) : SF cls own X (.Call (.Name x p) (a :: es) [] pos) (eFn g fs) := by
  refine pe_imp (pe_callB hc hgl hm hv ha hn hdb he hpl) fun σ H Q q => ?_
  obtain ⟨G, al, m, d, m', r, e, k⟩ := q
  obtain ⟨hs, xs, e1, l1, gz⟩ := eFn_ok e
  refine ⟨G, al, m, hs, m', r, e1, fun G1 al1 v H1 ev1 r1 hv1 => ?_⟩
  exact hg G1 al1 m' σ H1 v xs d Q r1 (looks_cr r1 hv1 l1) gz fun G3 al3 w ob H3 ev3 r3 hp hn c => k G3 al3 w ob H3 (ev1.trans ev3) r3 hp hn c
theorem se_callTy {x : Str} {p : Pos} {id : String} {es : List Expr} {r : List V → Hp → VK → Prop} {g : List D → Option D} {fs : Den (List Hd)} (hc : CallR X (.type id) r) (hg : FnOkD X.kx cls own r g) (hgl : Gl X x) (hm : X.mg x = none) (hv : bootBuiltins x = some (.type id)) (ha : SHs cls own X (a :: es) fs)
    (hn : x ≠ "__name__" := by decide) (hdb : (x == ("__debug__" : Str)) = false := by decide)
    (he : starEach (a :: es) X.env = (false, eval a X.env) :: starEach es X.env := by rfl) (hpl : (backTo pos (starEach es X.env)).any (·.1) = false := by rfl) : SE cls own X (.Call (.Name x p) (a :: es) [] pos) (eFn g fs) := by
  refine pe_imp (pe_callTy hc hgl hm hv ha hn hdb he hpl) fun σ H Q q => ?_
  obtain ⟨G, al, m, d, m', r, e, k⟩ := q
  obtain ⟨hs, xs, e1, l1, gz⟩ := eFn_ok e
  refine ⟨G, al, m, hs, m', r, e1, fun G1 al1 v H1 ev1 r1 hv1 => ?_⟩
  exact hg G1 al1 m' σ H1 v xs d Q r1 (looks_cr r1 hv1 l1) gz fun G3 al3 w H3 ev3 r3 dv => k G3 al3 w H3 (ev1.trans ev3) r3 dv
theorem sf_callTy {x : Str} {p : Pos} {id : String} {es : List Expr} {r : List V → Hp → VK → Prop} {g : List D → Option D} {fs : Den (List Hd)} (hc : CallR X (.type id) r) (hg : FnOkF X.kx cls own r g) (hgl : Gl X x) (hm : X.mg x = none) (hv : bootBuiltins x = some (.type id)) (ha : SHs cls own X (a :: es) fs)
    (hn : x ≠ "__name__" := by decide) (hdb : (x == ("__debug__" : Str)) = false := by decide)
    (he : starEach (a :: es) X.env = (false, eval a X.env) :: starEach es X.env := by rfl) (hpl : (backTo pos (starEach es X.env)).any (·.1) = false := by rfl) : SF cls own X (.Call (.Name x p) (a :: es) [] pos) (eFn g fs) := by
  refine pe_imp (pe_callTy hc hgl hm hv ha hn hdb he hpl) fun σ H Q q => ?_
  obtain ⟨G, al, m, d, m', r, e, k⟩ := q
  obtain ⟨hs, xs, e1, l1, gz⟩ := eFn_ok e
  refine ⟨G, al, m, hs, m', r, e1, fun G1 al1 v H1 ev1 r1 hv1 => ?_⟩
  exact hg G1 al1 m' σ H1 v xs d Q r1 (looks_cr r1 hv1 l1) gz fun G3 al3 w ob H3 ev3 r3 hp hn c => k G3 al3 w ob H3 (ev1.trans ev3) r3 hp hn c
end

/-! ### plain data, == -/
mutual
def toPy : D → Option PyData
  | .non => some .none
  | .bl b => some (.bool b)
  | .int i => some (.int i)
  | .str x => some (.str x)
  | .tup ds => (toPys ds).map .tuple
  | .lst ds => (toPys ds).map .list
  | .dic _ => none
  | .dit _ => none
  | .set _ => none
  | .obj _ => none
  | .scr _ => none
def toPys : List D → Option (List PyData)
  | [] => some []
  | d :: ds => match toPy d, toPys ds with
    | some p, some ps => some (p :: ps)
    | _, _ => none
end
section
variable {K : KX} {H Z : Hp} {al : List Addr}
theorem toPys_cons {d : D} {ds : List D} {ps : List PyData} (e : toPys (d :: ds) = some ps) : ∃ p ps', toPy d = some p ∧ toPys ds = some ps' ∧ ps = p :: ps' := by
  rw [toPys] at e
  split at e
  · next p ps' h1 h2 => cases e; exact ⟨p, ps', h1, h2, rfl⟩
  · cases e
mutual
theorem DV.dp (s : Same Z H) : ∀ {v : V} {d : D} {p : PyData}, DV K Z al v d → toPy d = some p → Dp K.K H v p
  | _, _, _, .non, e => by cases e; exact .non
  | _, _, _, .bl b, e => by cases e; exact .bl b
  | _, _, _, .int b, e => by cases e; exact .int b
  | _, _, _, .str b, e => by cases e; exact .str b
  | _, _, _, .tup (ds := ds) h r, e => by
    cases q : toPys ds with
    | none => rw [toPy, q] at e; cases e
    | some ps => rw [toPy, q] at e; cases e; exact .tup (Same.tupS s h) (DVs.dp s r q)
  | _, _, _, .lst (ds := ds) h r, e => by
    cases q : toPys ds with
    | none => rw [toPy, q] at e; cases e
    | some ps => rw [toPy, q] at e; cases e; exact .lst (.inl (.inl (s _ _ h))) (DVs.dp s r q)
  | _, _, _, .dicK _ _ _, e => by cases e
  | _, _, _, .ditN _ _ _ _ _ _, e => by cases e
  | _, _, _, .obj _, e => by cases e
  | _, _, _, .scr _, e => by cases e
theorem DVs.dp (s : Same Z H) : ∀ {v : List V} {d : List D} {p : List PyData}, DVs K Z al v d → toPys d = some p → DpAll K.K H v p
  | _, _, _, .nil, e => by cases e; exact .nil
  | _, _, _, .cons h r, e => by
    obtain ⟨p, ps, h1, h2, rfl⟩ := toPys_cons e
    exact .cons (DV.dp s h h1) (DVs.dp s r h2)
end
theorem CR.dp (s : Same Z H) {v : V} {d : D} {p : PyData} (h : CR K H Z al v d) (e : toPy d = some p) : Dp K.K H v p := by
  cases d with
  | lst ds =>
    obtain ⟨a, xs, rfl, ha, r⟩ := h
    cases q : toPys ds with
    | none => rw [toPy, q] at e; cases e
    | some ps => rw [toPy, q] at e; cases e; exact .lst (.inl (.inl ha)) (r.dp s q)
  | dic ds => cases e
  | dit ds => cases e
  | _ => exact DV.dp s h e
end
/-- data that may be compared by == -/
def okE (d : D) : Option PyData := match toPy d with
  | some p => if SeqAt.shaped p then some p else none
  | none => none
theorem okE_some {d : D} {p : PyData} (h : okE d = some p) : toPy d = some p ∧ SeqAt.shaped p = true := by
  unfold okE at h
  split at h
  · next q e =>
    split at h
    · next hs => cases h; exact ⟨e, hs⟩
    · cases h
  · cases h
def eqB (a b : D) : Option Bool := match okE a, okE b with
  | some p, some q => some (PyData.eqv p q)
  | _, _ => none
def gEq (a b : D) : Option D := (eqB a b).map .bl
def gNe (a b : D) : Option D := (eqB a b).map fun c => .bl (!c)
section
variable {cls : Nat → Addr} {own : Nat → Bool} {K : KX}
theorem ok_eqD : OpOk K cls own (rEqD K.K) gEq := by
  intro G al m σ H x y da db d Q r hx hy e k
  unfold gEq eqB at e
  split at e
  · next p q e1 e2 =>
    cases e
    obtain ⟨t1, s1⟩ := okE_some e1
    obtain ⟨t2, s2⟩ := okE_some e2
    exact ⟨p, q, hx.dp r.zh t1, hy.dp r.zh t2, s1, s2, k.keep r (.bl _)⟩
  · cases e
theorem ok_neD : OpOk K cls own (rNeD K.K) gNe := by
  intro G al m σ H x y da db d Q r hx hy e k
  unfold gNe eqB at e
  split at e
  · next p q e1 e2 =>
    cases e
    obtain ⟨t1, s1⟩ := okE_some e1
    obtain ⟨t2, s2⟩ := okE_some e2
    exact ⟨p, q, hx.dp r.zh t1, hy.dp r.zh t2, s1, s2, k.keep r (.bl _)⟩
  · cases e
end
end MI

namespace MI
open PySem PySem.Spec L2

def rOr (r1 r2 : R2) : R2 := fun x y H Q => r1 x y H Q ∨ r2 x y H Q
theorem opR_or {X : Cx} {f : Value → Value → Sem Value} {r1 r2 : R2} (h1 : OpR X f r1) (h2 : OpR X f r2) : OpR X f (rOr r1 r2) := by
  intro pins s σ H x y v u Q I rx ry h
  rcases h with h | h
  · exact h1 pins s σ H x y v u Q I rx ry h
  · exact h2 pins s σ H x y v u Q I rx ry h
def cOr (r1 r2 : List V → Hp → VK → Prop) : List V → Hp → VK → Prop := fun xs H Q => r1 xs H Q ∨ r2 xs H Q
theorem callR_or {X : Cx} {f : Value} {r1 r2 : List V → Hp → VK → Prop} (h1 : CallR X f r1) (h2 : CallR X f r2) : CallR X f (cOr r1 r2) := by
  intro pins s σ H xs us Q I rv h
  rcases h with h | h
  · exact h1 pins s σ H xs us Q I rv h
  · exact h2 pins s σ H xs us Q I rv h

section
variable {K : KX} {H Z : Hp} {al : List Addr} {v : V}
theorem CR.int {i : Int} (h : CR K H Z al v (.int i)) : v = .int i := by cases (show DV K Z al v (.int i) from h); rfl
theorem CR.str {i : Str} (h : CR K H Z al v (.str i)) : v = .str i := by cases (show DV K Z al v (.str i) from h); rfl
theorem CR.bl {i : Bool} (h : CR K H Z al v (.bl i)) : v = .bl i := by cases (show DV K Z al v (.bl i) from h); rfl
theorem CR.non (h : CR K H Z al v .non) : v = .non := by cases (show DV K Z al v .non from h); rfl
theorem CR.tup {ds : List D} (h : CR K H Z al v (.tup ds)) : ∃ a xs, v = .ref a ∧ SqN K.K Z a xs ∧ DVs K Z al xs ds := by
  cases (show DV K Z al v (.tup ds) from h) with
  | tup h1 r1 => exact ⟨_, _, rfl, h1, r1⟩
end
section
variable {K : KX} {cls : Nat → Addr} {own : Nat → Bool} {G : Gh} {al : List Addr} {m : MS} {σ : St} {H : Hp} {d : D} {Q : VK} {v : V} {p : Addr}
theorem Post.lst {xs : List V} {ds : List D} (k : Post K cls own G al m σ (.lst ds) Q) (r : Rst K cls own G al m σ H) (h : DVs K (Zof G) al xs ds) (hp : H p = none) : Q (.ref p) (upd H p (.lst xs)) := by
  have hn := r.hst.nog hp
  have ev : Ev G al (putG G p .frz (.lst xs)) al := ev_put hn
  exact k _ al _ _ ev ((r.fresh hp).tag hn upd_same) (.lst (zof_of putG_same) (h.ev ev))
end

/-! ### + - * // % ** -/
def fitL (n : Nat) : Bool := decide (n ≤ sizeLine)
theorem fitL_le {n : Nat} (h : fitL n = true) : n ≤ sizeLine := of_decide_eq_true h
def gAdd : D → D → Option D
  | .int i, .int j => some (.int (i + j))
  | .str x, .str y => if fitL (x.length + y.length) then some (.str (x ++ y)) else none
  | .tup xs, .tup ys => if fitL (xs.length + ys.length) then some (.tup (xs ++ ys)) else none
  | .lst xs, .lst ys => if fitL (xs.length + ys.length) then some (.lst (xs ++ ys)) else none
  | _, _ => none
def rAdd (K : PySem.W.Frag) : R2 := rOr (rI0 fun i j => .int (i + j)) (rOr (fun x y H Q => ∃ i j, x = .str i ∧ y = .str j ∧ i.length + j.length ≤ sizeLine ∧ Q (.str (i ++ j)) H) (rOr (rCatF K) rCat))
theorem op_addU {X : Cx} : OpR X (binaryOp .Add) (rAdd X.K) := opR_or op_add (opR_or op_add_str (opR_or op_catF op_cat))
section
variable {cls : Nat → Addr} {own : Nat → Bool} {K : KX}
theorem nil_iff {K : KX} {Z : Hp} {al : List Addr} {xs : List V} {ds : List D} (h : DVs K Z al xs ds) : xs = [] ↔ ds = [] := by
  cases h <;> simp
theorem ok_add : OpOk K cls own (rAdd K.K) gAdd := by
  intro G al m σ H x y da db d Q r hx hy e k
  unfold gAdd at e
  split at e
  · next i j => cases e; cases hx.int; cases hy.int; exact .inl ⟨i, j, rfl, rfl, k.keep r (.int _)⟩
  · next i j =>
    split at e
    · next hf => cases e; cases hx.str; cases hy.str; exact .inr (.inl ⟨i, j, rfl, rfl, fitL_le hf, k.keep r (.str _)⟩)
    · cases e
  · next xs ys =>
    split at e
    · next hf =>
      cases e
      obtain ⟨a, us, rfl, h1, r1⟩ := hx.tup
      obtain ⟨b, ws, rfl, h2, r2⟩ := hy.tup
      refine .inr (.inr (.inl ⟨a, b, us, ws, rfl, rfl, Same.tupS r.zh h1, Same.tupS r.zh h2, by rw [r1.length, r2.length]; exact fitL_le hf, fun e => ?_, fun _ e => ?_, fun _ _ p ob hp hdb => ?_⟩))
      · have := (nil_iff r1).mp e
        subst this
        exact k.keep r (.tup h2 r2)
      · have := (nil_iff r2).mp e
        subst this
        rw [List.append_nil] at k
        exact k.keep r (.tup h1 r1)
      · exact k.tup r (r1.append r2) hp hdb
    · cases e
  · next xs ys =>
    split at e
    · next hf =>
      cases e
      obtain ⟨a, us, rfl, h1, r1⟩ := hx
      obtain ⟨b, ws, rfl, h2, r2⟩ := hy
      exact .inr (.inr (.inr ⟨a, b, us, ws, rfl, rfl, h1, h2, by rw [r1.length, r2.length]; exact fitL_le hf, fun p hp => k.lst r (r1.append r2) hp⟩))
    · cases e
  · cases e
def gSub : D → D → Option D
  | .int i, .int j => some (.int (i - j))
  | _, _ => none
theorem ok_sub : OpOk K cls own (rI0 fun i j => .int (i - j)) gSub := by
  intro G al m σ H x y da db d Q r hx hy e k
  unfold gSub at e
  split at e
  · next i j => cases e; cases hx.int; cases hy.int; exact ⟨i, j, rfl, rfl, k.keep r (.int _)⟩
  · cases e
def gMul : D → D → Option D
  | .int i, .int j => if i.natAbs.log2 + j.natAbs.log2 < 1000000 then some (.int (i * j)) else none
  | .lst xs, .int k => if k < 1000 ∧ -1000 < k ∧ xs.length * k.toNat ≤ sizeLine then some (.lst (List.replicate k.toNat xs).flatten) else none
  | _, _ => none
def rMul : R2 := rOr (rI CMulW fun i j => .int (i * j)) rRep
theorem op_mulU {X : Cx} : OpR X (binaryOp .Mult) rMul := opR_or op_mulW op_rep
theorem DVs.rep {K : KX} {Z : Hp} {al : List Addr} {xs : List V} {ds : List D} (h : DVs K Z al xs ds) : ∀ n : Nat, DVs K Z al (List.replicate n xs).flatten (List.replicate n ds).flatten
  | 0 => .nil
  | n + 1 => by
    rw [List.replicate_succ, List.replicate_succ, List.flatten_cons, List.flatten_cons]
    exact h.append (DVs.rep h n)
theorem ok_mul : OpOk K cls own rMul gMul := by
  intro G al m σ H x y da db d Q r hx hy e k
  unfold gMul at e
  split at e
  · next i j =>
    split at e
    · next hf => cases e; cases hx.int; cases hy.int; exact .inl ⟨i, j, rfl, rfl, hf, k.keep r (.int _)⟩
    · cases e
  · next xs n =>
    split at e
    · next hf =>
      cases e
      obtain ⟨a, us, rfl, h1, r1⟩ := hx
      cases hy.int
      obtain ⟨f1, f2, f3⟩ := hf
      exact .inr ⟨a, n, us, rfl, rfl, h1, by omega, by omega, by rw [r1.length]; exact f3, fun p hp => k.lst r (r1.rep _) hp⟩
    · cases e
  · cases e
def gDiv : D → D → Option D
  | .int i, .int j => if 0 < j ∧ j.natAbs.log2 < 9000 then some (.int (i / j)) else none
  | _, _ => none
theorem ok_div : OpOk K cls own (rI CDivW fun i j => .int (i / j)) gDiv := by
  intro G al m σ H x y da db d Q r hx hy e k
  unfold gDiv at e
  split at e
  · next i j =>
    split at e
    · next hf => cases e; cases hx.int; cases hy.int; exact ⟨i, j, rfl, rfl, hf, k.keep r (.int _)⟩
    · cases e
  · cases e
def gMod : D → D → Option D
  | .int i, .int j => if 0 < j then some (.int (i % j)) else none
  | _, _ => none
theorem ok_mod : OpOk K cls own (rI (fun _ j => j ≠ 0) fun i j => .int (i.fmod j)) gMod := by
  intro G al m σ H x y da db d Q r hx hy e k
  unfold gMod at e
  split at e
  · next i j =>
    split at e
    · next hf =>
      cases e; cases hx.int; cases hy.int
      refine ⟨i, j, rfl, rfl, by omega, ?_⟩
      show Q (V.int (i.fmod j)) H
      rw [Int.fmod_eq_emod_of_nonneg _ (show 0 ≤ j by omega)]
      exact k.keep r (.int _)
    · cases e
  · cases e
def gPow : D → D → Option D
  | .int i, .int j => if 0 ≤ j ∧ j ≤ 1000000 ∧ i.natAbs < 2 ^ 64 then some (.int (i ^ j.toNat)) else none
  | _, _ => none
theorem ok_pow : OpOk K cls own (rI CPow fun i j => .int (i ^ j.toNat)) gPow := by
  intro G al m σ H x y da db d Q r hx hy e k
  unfold gPow at e
  split at e
  · next i j =>
    split at e
    · next hf => cases e; cases hx.int; cases hy.int; exact ⟨i, j, rfl, rfl, hf, k.keep r (.int _)⟩
    · cases e
  · cases e
def gNeg : D → Option D
  | .int i => some (.int (-i))
  | _ => none
theorem ok_neg : UnOk K cls own (rU fun i => .int (-i)) gNeg := by
  intro G al m σ H x da d Q r hx e k
  unfold gNeg at e
  split at e
  · next i => cases e; cases hx.int; exact ⟨i, rfl, k.keep r (.int _)⟩
  · cases e

/-! ### order -/
def gLt : D → D → Option D
  | .int i, .int j => some (.bl (decide (i < j)))
  | .str x, .str y => some (.bl (decide (x.cps.toList < y.cps.toList)))
  | _, _ => none
def rLt : R2 := rOr (rI0 fun i j => .bl (decide (i < j))) (fun x y H Q => ∃ i j, x = .str i ∧ y = .str j ∧ Q (.bl (decide (i.cps.toList < j.cps.toList))) H)
theorem op_ltU {X : Cx} : OpR X (compareOp .Lt) rLt := opR_or op_lt op_lt_str
theorem ok_lt : OpOk K cls own rLt gLt := by
  intro G al m σ H x y da db d Q r hx hy e k
  unfold gLt at e
  split at e
  · next i j => cases e; cases hx.int; cases hy.int; exact .inl ⟨i, j, rfl, rfl, k.keep r (.bl _)⟩
  · next i j => cases e; cases hx.str; cases hy.str; exact .inr ⟨i, j, rfl, rfl, k.keep r (.bl _)⟩
  · cases e
def gI (c : Int → Int → Bool) : D → D → Option D
  | .int i, .int j => some (.bl (c i j))
  | _, _ => none
theorem ok_I {c : Int → Int → Bool} : OpOk K cls own (rI0 fun i j => .bl (c i j)) (gI c) := by
  intro G al m σ H x y da db d Q r hx hy e k
  unfold gI at e
  split at e
  · next i j => cases e; cases hx.int; cases hy.int; exact ⟨i, j, rfl, rfl, k.keep r (.bl _)⟩
  · cases e
abbrev gLe : D → D → Option D := gI fun i j => decide (i ≤ j)
abbrev gGt : D → D → Option D := gI fun i j => decide (j < i)
abbrev gGe : D → D → Option D := gI fun i j => decide (j ≤ i)
/-! ### is None -/
def gIsN : D → D → Option D
  | .non, .non => some (.bl true)
  | .int _, .non => some (.bl false)
  | .bl _, .non => some (.bl false)
  | .str _, .non => some (.bl false)
  | .tup _, .non => some (.bl false)
  | .lst _, .non => some (.bl false)
  | _, _ => none
def gNotN (a b : D) : Option D := match gIsN a b with
  | some (.bl c) => some (.bl (!c))
  | _ => none
end
end MI

namespace MI
open PySem PySem.Spec L2

/-! ### keys -/
def kEq : D → D → Bool
  | .int i, .int j => decide (i = j)
  | .str x, .str y => decide (x = y)
  | _, _ => false
def isKey : D → Bool
  | .int _ => true
  | .str _ => true
  | _ => false
def dget : List (D × D) → D → Option D
  | [], _ => none
  | (k, v) :: r, x => if kEq k x then some v else dget r x
theorem kEq_kD (a b : Key) : kEq (kD a) (kD b) = decide (a = b) := by
  cases a with
  | inl i => cases b with
    | inl j => simp [kEq, kD]
    | inr y => simp [kEq, kD]
  | inr x => cases b with
    | inl j => simp [kEq, kD]
    | inr y => simp [kEq, kD]
theorem isKey_kD {d : D} (h : isKey d = true) : ∃ k, d = kD k := by
  cases d with
  | int i => exact ⟨.inl i, rfl⟩
  | str i => exact ⟨.inr i, rfl⟩
  | _ => cases h
theorem CR.key {K : KX} {H Z : Hp} {al : List Addr} {v : V} {k : Key} (h : CR K H Z al v (kD k)) : v = kV k := by
  cases k with
  | inl i => exact CR.int h
  | inr x => exact CR.str h
theorem dget_K {K : KX} {Z : Hp} {al : List Addr} (k : Key) : ∀ {kvs : List (Key × V)} {ds : List (D × D)}, ds.map Prod.fst = kvs.map (fun q => kD q.1) → DVs K Z al (kvs.map Prod.snd) (ds.map Prod.snd) →
    (∀ d, dget ds (kD k) = some d → ∃ v, valV kvs k = some v ∧ DV K Z al v d) ∧ (dget ds (kD k) = none → valV kvs k = none)
  | [], [], _, _ => ⟨fun d h => (nomatch (show (none : Option D) = some d from h)), fun _ => rfl⟩
  | [], _ :: _, e, _ => by cases e
  | _ :: _, [], e, _ => by cases e
  | (a, v) :: kvs, (x, d) :: ds, e, r => by
    have e' : x :: ds.map Prod.fst = kD a :: kvs.map (fun q => kD q.1) := e
    injection e' with e1 e2
    subst e1
    cases r with
    | cons r1 r2 =>
      obtain ⟨i1, i2⟩ := dget_K k e2 r2
      unfold dget
      rw [kEq_kD]
      by_cases h : a = k
      · subst h
        simp only [decide_true, if_true]
        exact ⟨fun d' q => by cases q; exact ⟨v, valV_pos rfl, r1⟩, fun q => by cases q⟩
      · simp only [decide_eq_false h, Bool.false_eq_true, if_false]
        rw [valV_neg h]
        exact ⟨i1, i2⟩

/-! ### in -/
def gIn : D → D → Option Bool
  | x, .lst ds => match okE x, okE (.lst ds) with
    | some p, some (.list ps) => some (ps.any fun z => PyData.eqv z p)
    | _, _ => none
  | x, .tup ds => match okE x, okE (.tup ds) with
    | some p, some (.tuple ps) => some (ps.any fun z => PyData.eqv z p)
    | _, _ => none
  | x, .dic ds => if isKey x then some (dget ds x).isSome else none
  | .str i, .str j => some (!(Builtin.Str.occurrences j i 0 j.length 1).isEmpty)
  | _, _ => none
def gInD (a b : D) : Option D := (gIn a b).map .bl
def gNotInD (a b : D) : Option D := (gIn a b).map fun c => .bl (!c)
def rInAll (K : PySem.W.Frag) (neg : Bool) : R2 := fun x y H Q => ∃ b : Bool, ((∃ d ds, Dp K H x d ∧ Dp K H y (.list ds) ∧ SeqAt.shaped d = true ∧ SeqAt.shaped (.list ds) = true ∧ b = ds.any fun z => PyData.eqv z d) ∨
    (∃ d ds, Dp K H x d ∧ Dp K H y (.tuple ds) ∧ SeqAt.shaped d = true ∧ SeqAt.shaped (.tuple ds) = true ∧ b = ds.any fun z => PyData.eqv z d) ∨
    (∃ a o, y = .ref a ∧ DGet H a x o ∧ b = o.isSome) ∨ (∃ i j, x = .str i ∧ y = .str j ∧ b = !(Builtin.Str.occurrences j i 0 j.length 1).isEmpty)) ∧ Q (.bl (if neg then !b else b)) H
section
variable {X : Cx}
theorem op_inU (hu : X.A.units + 65 < cLine) : OpR X (compareOp .In) (rInAll X.K false) := by
  intro pins s σ H x y v u Q I rx ry h
  obtain ⟨b, h, q⟩ := h
  rcases h with ⟨d, ds, hd, he, sd, se, rfl⟩ | ⟨d, ds, hd, he, sd, se, rfl⟩ | ⟨a, o, rfl, g, rfl⟩ | ⟨i, j, rfl, rfl, rfl⟩
  · exact op_inD hu pins s σ H x y v u Q I rx ry ⟨d, ds, hd, he, sd, se, q⟩
  · obtain ⟨as, r1⟩ := Dp.reads I d x v hd rx
    obtain ⟨bs, r2⟩ := Dp.reads I (.tuple ds) y u he ry
    exact SeqAt.in_tuple_reads r2 r1 (SeqAt.canLay_of_shaped se) (SeqAt.canLay_of_shaped sd) (PyProof.Rows.room_in_shaped sd hu) ⟨.bl _, H, I, rfl, q⟩
  · cases ry
    exact d_in (by omega) I g rx fun s' I' => ⟨.bl _, H, I', rfl, q⟩
  · exact op_in_str pins s σ H _ _ v u Q I rx ry ⟨i, j, rfl, rfl, q⟩
theorem op_notInU (hu : X.A.units + 65 < cLine) : OpR X (compareOp .NotIn) (rInAll X.K true) := by
  intro pins s σ H x y v u Q I rx ry h
  obtain ⟨b, h, q⟩ := h
  rcases h with ⟨d, ds, hd, he, sd, se, rfl⟩ | ⟨d, ds, hd, he, sd, se, rfl⟩ | ⟨a, o, rfl, g, rfl⟩ | ⟨i, j, rfl, rfl, rfl⟩
  · exact op_notInD hu pins s σ H x y v u Q I rx ry ⟨d, ds, hd, he, sd, se, q⟩
  · obtain ⟨as, r1⟩ := Dp.reads I d x v hd rx
    obtain ⟨bs, r2⟩ := Dp.reads I (.tuple ds) y u he ry
    exact SeqAt.notIn_tuple_reads r2 r1 (SeqAt.canLay_of_shaped se) (SeqAt.canLay_of_shaped sd) (PyProof.Rows.room_in_shaped sd hu) ⟨.bl _, H, I, rfl, q⟩
  · cases ry
    exact d_notIn (by omega) I g rx fun s' I' => ⟨.bl _, H, I', rfl, q⟩
  · exact op_notin_str pins s σ H _ _ v u Q I rx ry ⟨i, j, rfl, rfl, q⟩
end
section
variable {cls : Nat → Addr} {own : Nat → Bool} {K : KX}
theorem toPy_lst {ds : List D} {p : PyData} (h : toPy (.lst ds) = some p) : ∃ ps, toPys ds = some ps ∧ p = .list ps := by
  rw [toPy] at h
  cases q : toPys ds with
  | none => rw [q] at h; cases h
  | some ps => rw [q] at h; cases h; exact ⟨ps, rfl, rfl⟩
theorem toPy_tup {ds : List D} {p : PyData} (h : toPy (.tup ds) = some p) : ∃ ps, toPys ds = some ps ∧ p = .tuple ps := by
  rw [toPy] at h
  cases q : toPys ds with
  | none => rw [q] at h; cases h
  | some ps => rw [q] at h; cases h; exact ⟨ps, rfl, rfl⟩
theorem in_core {G : Gh} {al : List Addr} {m : MS} {σ : St} {H : Hp} {x y : V} {da db : D} {b : Bool} (r : Rst K cls own G al m σ H) (hx : CR K H (Zof G) al x da) (hy : CR K H (Zof G) al y db) (e : gIn da db = some b) :
    (∃ d ds, Dp K.K H x d ∧ Dp K.K H y (.list ds) ∧ SeqAt.shaped d = true ∧ SeqAt.shaped (.list ds) = true ∧ b = ds.any fun z => PyData.eqv z d) ∨
    (∃ d ds, Dp K.K H x d ∧ Dp K.K H y (.tuple ds) ∧ SeqAt.shaped d = true ∧ SeqAt.shaped (.tuple ds) = true ∧ b = ds.any fun z => PyData.eqv z d) ∨
    (∃ a o, y = .ref a ∧ DGet H a x o ∧ b = o.isSome) ∨ (∃ i j, x = .str i ∧ y = .str j ∧ b = !(Builtin.Str.occurrences j i 0 j.length 1).isEmpty) := by
  unfold gIn at e
  split at e
  · next ds =>
    split at e
    · next p ps e1 e2 =>
      cases e
      obtain ⟨t1, s1⟩ := okE_some e1
      obtain ⟨t2, s2⟩ := okE_some e2
      exact .inl ⟨p, ps, hx.dp r.zh t1, hy.dp r.zh t2, s1, s2, rfl⟩
    · cases e
  · next ds =>
    split at e
    · next p ps e1 e2 =>
      cases e
      obtain ⟨t1, s1⟩ := okE_some e1
      obtain ⟨t2, s2⟩ := okE_some e2
      exact .inr (.inl ⟨p, ps, hx.dp r.zh t1, hy.dp r.zh t2, s1, s2, rfl⟩)
    · cases e
  · next ds =>
    split at e
    · next hk =>
      cases e
      obtain ⟨k, rfl⟩ := isKey_kD hk
      cases hx.key
      obtain ⟨a, kvs, rfl, hr, e1, e2⟩ := hy
      refine .inr (.inr (.inl ⟨a, valV kvs k, rfl, .inl ⟨kvs, k, hr, rfl, rfl⟩, ?_⟩))
      obtain ⟨i1, i2⟩ := dget_K k e1 e2
      cases q : dget ds (kD k) with
      | none => rw [i2 q]; rfl
      | some d => obtain ⟨v, h1, _⟩ := i1 d q; rw [h1]; rfl
    · cases e
  · next i j => cases e; cases hx.str; cases hy.str; exact .inr (.inr (.inr ⟨i, j, rfl, rfl, rfl⟩))
  · cases e
theorem ok_in : OpOk K cls own (rInAll K.K false) gInD := by
  intro G al m σ H x y da db d Q r hx hy e k
  unfold gInD at e
  cases q : gIn da db with
  | none => rw [q] at e; cases e
  | some b => rw [q] at e; cases e; exact ⟨b, in_core r hx hy q, k.keep r (.bl _)⟩
theorem ok_notIn : OpOk K cls own (rInAll K.K true) gNotInD := by
  intro G al m σ H x y da db d Q r hx hy e k
  unfold gNotInD at e
  cases q : gIn da db with
  | none => rw [q] at e; cases e
  | some b => rw [q] at e; cases e; exact ⟨b, in_core r hx hy q, k.keep r (.bl _)⟩
/-! ### is None -/
theorem DV.isN {Z : Hp} {al : List Addr} {v : V} {d : D} {b : Bool} (h : DV K Z al v d) (e : gIsN d .non = some (.bl b)) : decide (v = .non) = b := by
  cases h <;> first
    | (have e' : (some (D.bl true)) = some (.bl b) := e; cases e'; rfl)
    | (have e' : (some (D.bl false)) = some (.bl b) := e; cases e'; rfl)
    | (exact nomatch (show (none : Option D) = some (.bl b) from e))
theorem gIsN_bl {a b : D} {d : D} (e : gIsN a b = some d) : b = .non ∧ ∃ c, d = .bl c := by
  unfold gIsN at e
  split at e <;> first
    | (cases e; exact ⟨rfl, _, rfl⟩)
    | cases e
theorem CR.isN {H Z : Hp} {al : List Addr} {v : V} {d : D} {b : Bool} (h : CR K H Z al v d) (e : gIsN d .non = some (.bl b)) : decide (v = .non) = b := by
  cases d with
  | lst ds => obtain ⟨a, xs, rfl, _⟩ := h; have e' : (some (D.bl false)) = some (.bl b) := e; cases e'; rfl
  | dic ds => exact nomatch (show (none : Option D) = some (.bl b) from e)
  | dit ds => exact nomatch (show (none : Option D) = some (.bl b) from e)
  | _ => exact DV.isN h e
theorem ok_isN : OpOk K cls own (fun x y H Q => y = .non ∧ Q (.bl (decide (x = .non))) H) gIsN := by
  intro G al m σ H x y da db d Q r hx hy e k
  obtain ⟨rfl, c, rfl⟩ := gIsN_bl e
  cases hy.non
  refine ⟨rfl, ?_⟩
  rw [hx.isN e]
  exact k.keep r (.bl _)
theorem ok_notN : OpOk K cls own (fun x y H Q => y = .non ∧ Q (.bl (!decide (x = .non))) H) gNotN := by
  intro G al m σ H x y da db d Q r hx hy e k
  unfold gNotN at e
  split at e
  · next c q =>
    cases e
    obtain ⟨rfl, c', e2⟩ := gIsN_bl q
    cases e2
    cases hy.non
    refine ⟨rfl, ?_⟩
    rw [hx.isN q]
    exact k.keep r (.bl _)
  · cases e

/-! ### subscripts -/
def gIx : D → D → Option D
  | .lst ds, .int i => atI ds i
  | .tup ds, .int i => atI ds i
  | .scr ns, .int i => (atI ns i).map .int
  | .str z, .int i => if fitL z.length then (atI z.cps.toList i).map fun c => .str ⟨#[c]⟩ else none
  | .dic ds, k => if isKey k then dget ds k else none
  | _, _ => none
theorem atI_DVs {Z : Hp} {al : List Addr} {xs : List V} {ds : List D} {i : Int} {d : D} (h : DVs K Z al xs ds) (e : atI ds i = some d) : ∃ v, atI xs i = some v ∧ DV K Z al v d := by
  unfold atI at e ⊢
  rw [h.length]
  cases q : ixN ds.length i with
  | none => rw [q] at e; cases e
  | some j => rw [q] at e; exact h.get e
theorem atI_map {ns : List Int} {i j : Int} (e : atI ns i = some j) : atI (ns.map V.int) i = some (.int j) := by
  unfold atI at e ⊢
  rw [List.length_map]
  cases q : ixN ns.length i with
  | none => rw [q] at e; cases e
  | some j => rw [q] at e; simp only [Option.bind_some] at e ⊢; rw [List.getElem?_map, e]; rfl
def rIxAll (K : PySem.W.Frag) : R2 := fun x y H Q => rIxL K x y H Q ∨ rIxT K x y H Q ∨ rIxS x y H Q ∨ ∃ a v, x = .ref a ∧ DGet H a y (some v) ∧ Q v H
theorem ix_dict {X : Cx} (hu : X.A.units + 65 < cLine) : IxR X (fun x y H Q => ∃ a v, x = .ref a ∧ DGet H a y (some v) ∧ Q v H) := by
  intro value slice pins s σ H x y v u Q I rx ry h hs
  obtain ⟨a, z, rfl, g, q⟩ := h
  cases rx
  exact PyProof.Rows.tail_any (dict_typeIs I g) PySem.F.slot_dict_getitem.lookup (d_getItem (by omega) I g ry fun w' s' I' r' => ⟨z, H, I', r', q⟩) hs
theorem ix_all {X : Cx} (hu : X.A.units + 65 < cLine) : IxR X (rIxAll X.K) := IxR.or ix_list (IxR.or ix_tup (IxR.or ix_str (ix_dict hu)))
theorem ok_ix : OpOk K cls own (rIxAll K.K) gIx := by
  intro G al m σ H x y da db d Q r hx hy e k
  unfold gIx at e
  split at e
  · next ds i =>
    cases hy.int
    obtain ⟨a, xs, rfl, h1, r1⟩ := hx
    obtain ⟨v, e1, e2⟩ := atI_DVs r1 e
    exact .inl ⟨a, xs, i, v, rfl, rfl, .inl (.inl h1), e1, k.keep r e2⟩
  · next ds i =>
    cases hy.int
    obtain ⟨a, xs, rfl, h1, r1⟩ := hx.tup
    obtain ⟨v, e1, e2⟩ := atI_DVs r1 e
    exact .inr (.inl ⟨a, xs, i, v, rfl, rfl, Same.tupS r.zh h1, e1, k.keep r e2⟩)
  · next ns i =>
    cases hy.int
    cases (show DV K (Zof G) al x (.scr ns) from hx) with
    | scr h =>
      cases q : atI ns i with
      | none => rw [q] at e; cases e
      | some j => rw [q] at e; cases e; exact .inl ⟨_, _, i, _, rfl, rfl, L2.Same.seq r.zh h, atI_map q, k.keep r (.int _)⟩
  · next z i =>
    split at e
    · next hf =>
      cases hy.int
      cases hx.str
      cases q : atI z.cps.toList i with
      | none => rw [q] at e; cases e
      | some j => rw [q] at e; cases e; exact .inr (.inr (.inl ⟨z, i, j, rfl, rfl, fitL_le hf, q, k.keep r (.str _)⟩))
    · cases e
  · next ds _ =>
    split at e
    · next hk =>
      obtain ⟨k0, rfl⟩ := isKey_kD hk
      cases hy.key
      obtain ⟨a, kvs, rfl, hr, e1, e2⟩ := hx
      obtain ⟨v, h1, h2⟩ := (dget_K k0 e1 e2).1 d e
      exact .inr (.inr (.inr ⟨a, v, rfl, .inl ⟨kvs, k0, hr, rfl, h1.symm⟩, k.keep r h2⟩))
    · cases e
  · cases e
end
section
variable {cls : Nat → Addr} {own : Nat → Bool} {X : Cx} {a b : Expr} {fa fb : Den Hd} {pos : Pos}
theorem se_ix (hu : X.A.units + 65 < cLine) (ha : SH cls own X a fa) (hb : SH cls own X b fb) (hs : PlainIx b) : SE cls own X (.Subscript a b pos) (eOp gIx fa fb) := by
  refine pe_imp (pe_ix (ix_all hu) ha hb hs) fun σ H Q q => ?_
  obtain ⟨G, al, m, d, m', r, e, k⟩ := q
  obtain ⟨h1, m1, h2, x, y, e1, e2, l1, l2, gz⟩ := eOp_ok e
  refine ⟨G, al, m, h1, m1, r, e1, fun G1 al1 v H1 ev1 r1 hv1 => ⟨G1, al1, m1, h2, m', r1, e2, fun G2 al2 u H2 ev2 r2 hv2 => ?_⟩⟩
  exact ok_ix G2 al2 m' σ H2 v u x y d Q r2 (look_cr r2 (hv1.ev ev2) l1) (look_cr r2 hv2 l2) gz fun G3 al3 w H3 ev3 r3 dv => k G3 al3 w H3 ((ev1.trans ev2).trans ev3) r3 dv
end
end MI

namespace MI
open PySem PySem.Spec L2

section
variable {K : KX} {H Z : Hp} {al : List Addr}
def ints? : List D → Option (List Int)
  | [] => some []
  | .int i :: r => (ints? r).map (i :: ·)
  | _ => none
def bls? : List D → Option (List Bool)
  | [] => some []
  | .bl i :: r => (bls? r).map (i :: ·)
  | _ => none
theorem DVs.ints : ∀ {xs : List V} {ds : List D} {ns : List Int}, DVs K Z al xs ds → ints? ds = some ns → xs = ns.map V.int
  | _, _, ns, .nil, e => by cases (show some [] = some ns from e); rfl
  | _, _, ns, .cons (d := d) (ds := ds) h r, e => by
    cases d with
    | int i =>
      rw [ints?] at e
      cases q : ints? ds with
      | none => rw [q] at e; cases e
      | some ms => rw [q] at e; cases e; cases h; rw [DVs.ints r q]; rfl
    | _ => cases e
theorem DVs.bls : ∀ {xs : List V} {ds : List D} {ns : List Bool}, DVs K Z al xs ds → bls? ds = some ns → xs = ns.map V.bl
  | _, _, ns, .nil, e => by cases (show some [] = some ns from e); rfl
  | _, _, ns, .cons (d := d) (ds := ds) h r, e => by
    cases d with
    | bl i =>
      rw [bls?] at e
      cases q : bls? ds with
      | none => rw [q] at e; cases e
      | some ms => rw [q] at e; cases e; cases h; rw [DVs.bls r q]; rfl
    | _ => cases e
theorem CRs.one {xs : List V} {d : D} (h : CRs K H Z al xs [d]) : ∃ x, xs = [x] ∧ CR K H Z al x d := by
  cases h with
  | cons h1 h2 => cases h2; exact ⟨_, rfl, h1⟩
theorem CRs.two {xs : List V} {d e : D} (h : CRs K H Z al xs [d, e]) : ∃ x y, xs = [x, y] ∧ CR K H Z al x d ∧ CR K H Z al y e := by
  cases h with
  | cons h1 h2 =>
    obtain ⟨y, rfl, h3⟩ := h2.one
    exact ⟨_, y, rfl, h1, h3⟩
end

/-! ### built-ins -/
section
variable {cls : Nat → Addr} {own : Nat → Bool} {K : KX}
def gLen : List D → Option D
  | [.lst ds] => some (.int ds.length)
  | [.tup ds] => some (.int ds.length)
  | [.scr ns] => some (.int ns.length)
  | [.str z] => if fitL z.length then some (.int z.length) else none
  | _ => none
def rLenU (K : PySem.W.Frag) : List V → Hp → VK → Prop := cOr (fun xs H Q => ∃ p ys, xs = [.ref p] ∧ (SqL K H p ys ∨ SqT K H p ys) ∧ Q (.int ys.length) H) (fun xs H Q => ∃ z, xs = [.str z] ∧ z.length ≤ sizeLine ∧ Q (.int z.length) H)
theorem cr_lenU {X : Cx} : CallR X (.builtin "len") (rLenU X.K) := callR_or call_len_seq call_len_str
theorem ok_len : FnOkD K cls own (rLenU K.K) gLen := by
  intro G al m σ H xs da d Q r hx e k
  unfold gLen at e
  split at e
  · next ds =>
    cases e
    obtain ⟨x, rfl, a, us, rfl, h1, r1⟩ := hx.one
    exact .inl ⟨a, us, rfl, .inl (.inl (.inl h1)), by rw [r1.length]; exact k.keep r (.int _)⟩
  · next ds =>
    cases e
    obtain ⟨x, rfl, hc⟩ := hx.one
    obtain ⟨a, us, rfl, h1, r1⟩ := hc.tup
    exact .inl ⟨a, us, rfl, .inr (Same.tupS r.zh h1), by rw [r1.length]; exact k.keep r (.int _)⟩
  · next ns =>
    cases e
    obtain ⟨x, rfl, hc⟩ := hx.one
    cases (show DV K (Zof G) al x (.scr ns) from hc) with
    | scr h => exact .inl ⟨_, _, rfl, .inl (L2.Same.seq r.zh h), by rw [List.length_map]; exact k.keep r (.int _)⟩
  · next z =>
    split at e
    · next hf =>
      cases e
      obtain ⟨x, rfl, hc⟩ := hx.one
      cases hc.str
      exact .inr ⟨z, rfl, fitL_le hf, k.keep r (.int _)⟩
    · cases e
  · cases e
def gTuple : List D → Option D
  | [.lst ds] => some (.tup ds)
  | [.tup ds] => some (.tup ds)
  | _ => none
theorem ok_tuple : FnOkD K cls own (rTupleF K.K) gTuple := by
  intro G al m σ H xs da d Q r hx e k
  unfold gTuple at e
  split at e
  · next ds =>
    cases e
    obtain ⟨x, rfl, a, us, rfl, h1, r1⟩ := hx.one
    exact ⟨a, us, rfl, .inl ⟨.inl (.inl h1), fun p ob hp hdb => k.tup r r1 hp hdb⟩⟩
  · next ds =>
    cases e
    obtain ⟨x, rfl, hc⟩ := hx.one
    obtain ⟨a, us, rfl, h1, r1⟩ := hc.tup
    exact ⟨a, us, rfl, .inr ⟨Same.tupS r.zh h1, k.keep r (.tup h1 r1)⟩⟩
  · cases e
def gList : List D → Option D
  | [.lst ds] => some (.lst ds)
  | [.tup ds] => some (.lst ds)
  | _ => none
theorem ok_list : FnOkF K cls own (fun xs H Q => ∃ p ys, xs = [.ref p] ∧ (SqL K.K H p ys ∨ SqT K.K H p ys) ∧ ∀ l, H l = none → Q (.ref l) (upd H l (.lst ys))) gList := by
  intro G al m σ H xs da d Q r hx e k
  unfold gList at e
  split at e
  · next ds =>
    cases e
    obtain ⟨x, rfl, a, us, rfl, h1, r1⟩ := hx.one
    exact ⟨a, us, rfl, .inl (.inl (.inl h1)), fun p hp => k.lst r r1 hp⟩
  · next ds =>
    cases e
    obtain ⟨x, rfl, hc⟩ := hx.one
    obtain ⟨a, us, rfl, h1, r1⟩ := hc.tup
    exact ⟨a, us, rfl, .inr (Same.tupS r.zh h1), fun p hp => k.lst r r1 hp⟩
  · cases e
def gAbs : List D → Option D
  | [.int i] => some (.int (if i < 0 then -i else i))
  | _ => none
theorem ok_abs : FnOkD K cls own (fun xs H Q => ∃ i, xs = [.int i] ∧ Q (.int (if i < 0 then -i else i)) H) gAbs := by
  intro G al m σ H xs da d Q r hx e k
  unfold gAbs at e
  split at e
  · next i => cases e; obtain ⟨x, rfl, hc⟩ := hx.one; cases hc.int; exact ⟨i, rfl, k.keep r (.int _)⟩
  · cases e
def gMax2 : List D → Option D
  | [.int i, .int j] => some (.int (if j > i then j else i))
  | _ => none
def gMin2 : List D → Option D
  | [.int i, .int j] => some (.int (if j < i then j else i))
  | _ => none
theorem ok_max2 : FnOkD K cls own (fun xs H Q => ∃ i j, xs = [.int i, .int j] ∧ Q (.int (if j > i then j else i)) H) gMax2 := by
  intro G al m σ H xs da d Q r hx e k
  unfold gMax2 at e
  split at e
  · next i j => cases e; obtain ⟨x, y, rfl, hc, hd⟩ := hx.two; cases hc.int; cases hd.int; exact ⟨i, j, rfl, k.keep r (.int _)⟩
  · cases e
theorem ok_min2 : FnOkD K cls own (fun xs H Q => ∃ i j, xs = [.int i, .int j] ∧ Q (.int (if j < i then j else i)) H) gMin2 := by
  intro G al m σ H xs da d Q r hx e k
  unfold gMin2 at e
  split at e
  · next i j => cases e; obtain ⟨x, y, rfl, hc, hd⟩ := hx.two; cases hc.int; cases hd.int; exact ⟨i, j, rfl, k.keep r (.int _)⟩
  · cases e
def gInt : List D → Option D
  | [.int i] => some (.int i)
  | [.bl b] => some (.int (if b then 1 else 0))
  | _ => none
theorem ok_int : FnOkD K cls own (fun xs H Q => (∃ i, xs = [.int i] ∧ Q (.int i) H) ∨ ∃ k, xs = [.bl k] ∧ Q (.int (if k then 1 else 0)) H) gInt := by
  intro G al m σ H xs da d Q r hx e k
  unfold gInt at e
  split at e
  · next i => cases e; obtain ⟨x, rfl, hc⟩ := hx.one; cases hc.int; exact .inl ⟨i, rfl, k.keep r (.int _)⟩
  · next i => cases e; obtain ⟨x, rfl, hc⟩ := hx.one; cases hc.bl; exact .inr ⟨i, rfl, k.keep r (.int _)⟩
  · cases e
def gSum : List D → Option D
  | [.lst ds] => (ints? ds).map fun ns => .int ns.sum
  | _ => none
theorem ok_sum : FnOkD K cls own (rSum K.K) gSum := by
  intro G al m σ H xs da d Q r hx e k
  unfold gSum at e
  split at e
  · next ds =>
    cases q : ints? ds with
    | none => rw [q] at e; cases e
    | some ns =>
      rw [q] at e; cases e
      obtain ⟨x, rfl, a, us, rfl, h1, r1⟩ := hx.one
      cases r1.ints q
      exact ⟨a, ns, rfl, .inl (.inl h1), k.keep r (.int _)⟩
  · cases e
def gAll : List D → Option D
  | [.lst ds] => (bls? ds).map fun ns => .bl (ns.all id)
  | _ => none
theorem ok_all : FnOkD K cls own (rAll K.K) gAll := by
  intro G al m σ H xs da d Q r hx e k
  unfold gAll at e
  split at e
  · next ds =>
    cases q : bls? ds with
    | none => rw [q] at e; cases e
    | some ns =>
      rw [q] at e; cases e
      obtain ⟨x, rfl, a, us, rfl, h1, r1⟩ := hx.one
      cases r1.bls q
      exact ⟨a, ns, rfl, .inl (.inl h1), k.keep r (.bl _)⟩
  · cases e
def gAny : List D → Option D
  | [.lst ds] => (bls? ds).map fun ns => .bl (ns.any id)
  | _ => none
theorem ok_any : FnOkD K cls own (rAny K.K) gAny := by
  intro G al m σ H xs da d Q r hx e k
  unfold gAny at e
  split at e
  · next ds =>
    cases q : bls? ds with
    | none => rw [q] at e; cases e
    | some ns =>
      rw [q] at e; cases e
      obtain ⟨x, rfl, a, us, rfl, h1, r1⟩ := hx.one
      cases r1.bls q
      exact ⟨a, ns, rfl, .inl (.inl h1), k.keep r (.bl _)⟩
  · cases e
end
end MI

namespace MI
open PySem PySem.Spec L2

/-! ### slots stored -/
section
variable {K : KX} {cls : Nat → Addr} {own : Nat → Bool} {G : Gh} {al : List Addr} {m : MS} {σ : St} {H : Hp}
theorem getSet {α : Type} {l : List (Option α)} {i j : Nat} {x : Option α} {d : α} (h : (l.set i x)[j]? = some (some d)) : (j = i ∧ i < l.length ∧ x = some d) ∨ (j ≠ i ∧ l[j]? = some (some d)) := by
  by_cases e : j = i
  · subst e
    by_cases hl : j < l.length
    · rw [List.getElem?_set_self hl] at h; exact .inl ⟨rfl, hl, Option.some.inj h⟩
    · rw [List.getElem?_eq_none (by simpa using hl)] at h; cases h
  · rw [List.getElem?_set_ne (Ne.symm e)] at h; exact .inr ⟨e, h⟩
theorem Rst.set {i : Nat} {v : V} {d : D} (r : Rst K cls own G al m σ H) (hv : DV K (Zof G) al v d) (ho : own i = false) : Rst K cls own G al { m with sl := m.sl.set i (some d) } (σ.set i (some v)) H := by
  refine ⟨r.hst, by simp [r.len], fun j e hj hoj => ?_, fun j e hj hoj => ?_⟩
  · rcases getSet hj with ⟨rfl, hl, e1⟩ | ⟨ne, hj⟩
    · cases e1
      exact ⟨v, by rw [List.getElem?_set_self (by rw [r.len]; exact hl)], hv⟩
    · obtain ⟨u, h1, h2⟩ := r.val j e hj hoj
      exact ⟨u, by rw [List.getElem?_set_ne (Ne.symm ne)]; exact h1, h2⟩
  · rcases getSet hj with ⟨rfl, hl, e1⟩ | ⟨ne, hj⟩
    · rw [ho] at hoj; cases hoj
    · obtain ⟨a, ob, h1, h2, h3⟩ := r.own j e hj hoj
      exact ⟨a, ob, by rw [List.getElem?_set_ne (Ne.symm ne)]; exact h1, h2, h3⟩
theorem Rst.setOwn {i : Nat} {p : Addr} {o : HO} {d : D} (r : Rst K cls own G al m σ H) (hp : H p = some o) (hn : G p = none) (c : CO K (Zof G) al p o d) (ho : own i = true) :
    Rst K cls own (putG G p (.slot i) o) al { m with sl := m.sl.set i (some d) } (σ.set i (some (.ref p))) H := by
  have r' : Rst K cls own (putG G p (.slot i) o) al m σ H := r.tag hn hp
  have ev : Ev G al (putG G p (.slot i) o) al := ev_put hn
  refine ⟨r'.hst, by simp [r.len], fun j e hj hoj => ?_, fun j e hj hoj => ?_⟩
  · rcases getSet hj with ⟨rfl, hl, e1⟩ | ⟨ne, hj⟩
    · rw [ho] at hoj; cases hoj
    · obtain ⟨u, h1, h2⟩ := r'.val j e hj hoj
      exact ⟨u, by rw [List.getElem?_set_ne (Ne.symm ne)]; exact h1, h2⟩
  · rcases getSet hj with ⟨rfl, hl, e1⟩ | ⟨ne, hj⟩
    · cases e1
      exact ⟨p, o, by rw [List.getElem?_set_self (by rw [r.len]; exact hl)], putG_same, c.mono ev.same ev.al⟩
    · obtain ⟨a, ob, h1, h2, h3⟩ := r'.own j e hj hoj
      exact ⟨a, ob, by rw [List.getElem?_set_ne (Ne.symm ne)]; exact h1, h2, h3⟩
/-- an owned slot's container is another one now -/
theorem Rst.write {i : Nat} {a : Addr} {o o' : HO} {d d' : D} (r : Rst K cls own G al m σ H) (hi : m.sl[i]? = some (some d)) (ho : own i = true) (hs : σ[i]? = some (some (.ref a))) (hg : G a = some (.slot i, o)) (c : CO K (Zof G) al a o' d') :
    Ev G al (putG G a (.slot i) o') al ∧ Rst K cls own (putG G a (.slot i) o') al { m with sl := m.sl.set i (some d') } σ (upd H a o') := by
  have ne : ∀ {b t u}, G b = some (t, u) → t ≠ .slot i → b ≠ a := fun e h z => by subst z; rw [hg] at e; cases e; exact h rfl
  have ev : Ev G al (putG G a (.slot i) o') al := ⟨fun b u e => by rw [putG_ne (ne e (by intro z; cases z))]; exact e, fun b u e => by rw [putG_ne (ne e (by intro z; cases z))]; exact e, List.prefix_refl _⟩
  refine ⟨ev, ⟨⟨fun b t u e => ?_, r.hst.len, fun n ob e => ?_⟩, by simp [r.len], fun j e hj hoj => ?_, fun j e hj hoj => ?_⟩⟩
  · by_cases hb : b = a
    · subst hb; rw [putG_same] at e; cases e; exact upd_same
    · rw [putG_ne hb] at e; rw [upd_ne hb]; exact r.hst.gh b t u e
  · obtain ⟨b, h1, h2⟩ := r.hst.sto n ob e
    refine ⟨b, h1, ?_⟩
    unfold SO at h2 ⊢
    cases ob with
    | lst ds =>
      obtain ⟨xs, e1, r1⟩ := h2
      exact ⟨xs, by rw [putG_ne (ne e1 (by intro z; cases z))]; exact e1, r1.ev ev⟩
    | ins c fs => exact h2
  · rcases getSet hj with ⟨rfl, hl, e1⟩ | ⟨ne', hj⟩
    · rw [ho] at hoj; cases hoj
    · obtain ⟨u, h1, h2⟩ := r.val j e hj hoj
      exact ⟨u, h1, h2.ev ev⟩
  · rcases getSet hj with ⟨rfl, hl, e1⟩ | ⟨ne', hj⟩
    · cases e1
      exact ⟨a, o', hs, putG_same, c.mono ev.same ev.al⟩
    · obtain ⟨b, ob, h1, h2, h3⟩ := r.own j e hj hoj
      exact ⟨b, ob, h1, by rw [putG_ne (ne h2 (by intro z; cases z; exact ne' rfl))]; exact h2, h3.mono ev.same ev.al⟩
end

/-! ### displays -/
def looksV (hs : List Hd) : Option (List D) := hs.mapM fun h => match h with
  | .val d => some d
  | .slot _ => none
def eTup (fa : Den (List Hd)) : Den D := fa.bind fun hs => fun m => match looksV hs with
  | some ds => if fitL ds.length then .ok (.tup ds) m else .bad
  | none => .bad
def eLst (fa : Den (List Hd)) : Den D := fa.bind fun hs => fun m => match looksV hs with
  | some ds => if fitL ds.length then .ok (.lst ds) m else .bad
  | none => .bad
theorem looksV_dv {K : KX} {own : Nat → Bool} {G : Gh} {al : List Addr} {σ : St} : ∀ {vs : List V} {hs : List Hd} {ds : List D}, HVs K own G al σ vs hs → looksV hs = some ds → DVs K (Zof G) al vs ds
  | _, _, ds, .nil, e => by
    have e : some [] = some ds := e
    cases e; exact .nil
  | _, _, ds, .cons (h := h) (hs := hs) hv hr, e => by
    unfold looksV at e
    rw [List.mapM_cons] at e
    cases h with
    | slot i => simp at e
    | val d =>
      cases e2 : looksV hs with
      | none =>
        unfold looksV at e2
        simp [e2] at e
      | some ds2 =>
        have e3 := e2
        unfold looksV at e3
        simp [e3] at e
        subst e
        exact .cons hv (looksV_dv hr e2)
section
variable {cls : Nat → Addr} {own : Nat → Bool} {X : Cx} {a b : Expr} {fa fb : Den Hd} {pos : Pos} {es : List Expr} {fs : Den (List Hd)}
theorem se_tup {x1} (h : SHs cls own X es fs) : SE cls own X (.Tuple es x1 pos) (eTup fs) := by
  refine pe_imp (pe_tupF h) fun σ H Q q => ?_
  obtain ⟨G, al, m, d, m', r, e, k⟩ := q
  obtain ⟨hs, m1, e1, e⟩ := bind_ok e
  split at e
  · next ds l =>
    split at e
    · next hf =>
      cases e
      refine ⟨G, al, m, hs, _, r, e1, fun G1 al1 v H1 ev1 r1 hv1 => ?_⟩
      have dv := looksV_dv hv1 l
      exact ⟨by rw [dv.length]; exact fitL_le hf, fun p ob hp hdb => Post.tup (fun G2 al2 v2 H2 ev2 r2 dv2 => k G2 al2 v2 H2 (ev1.trans ev2) r2 dv2) r1 dv hp hdb⟩
    · cases e
  · cases e
theorem sf_lst (h : SHs cls own X es fs) : SF cls own X (.List es pos) (eLst fs) := by
  refine pe_imp (pe_lst h) fun σ H Q q => ?_
  obtain ⟨G, al, m, d, m', r, e, k⟩ := q
  obtain ⟨hs, m1, e1, e⟩ := bind_ok e
  split at e
  · next ds l =>
    split at e
    · next hf =>
      cases e
      refine ⟨G, al, m, hs, _, r, e1, fun G1 al1 v H1 ev1 r1 hv1 => ?_⟩
      have dv := looksV_dv hv1 l
      exact ⟨by rw [dv.length]; exact fitL_le hf, fun p hp => PostF.lst (fun G2 al2 v2 o2 H2 ev2 r2 h2 n2 c2 => k G2 al2 v2 o2 H2 (ev1.trans ev2) r2 h2 n2 c2) r1 dv hp⟩
    · cases e
  · cases e

/-! ### tests -/
def gTru : D → Option Bool
  | .non => some false
  | .bl b => some b
  | .int i => some (i != 0)
  | .str z => if fitL z.length then some ((z.length : Int) != 0) else none
  | .lst ds => some (!ds.isEmpty)
  | .tup ds => some (!ds.isEmpty)
  | _ => none
def bTru (fa : Den Hd) : Den Bool := fa.bind fun h => fun m => match look h m with
  | some d => match gTru d with
    | some b => .ok b m
    | none => .bad
  | none => .bad
def bOf (f : Den D) : Den Bool := f.bind fun d => fun m => match d with
  | .bl b => .ok b m
  | _ => .bad
theorem isEmpty_dvs {K : KX} {Z : Hp} {al : List Addr} {xs : List V} {ds : List D} (h : DVs K Z al xs ds) : (!ds.isEmpty) = !xs.isEmpty := by cases h <;> rfl
theorem tru_of {K : KX} {H Z : Hp} {al : List Addr} {v : V} {d : D} {b : Bool} (s : Same Z H) (h : CR K H Z al v d) (e : gTru d = some b) : TruV K.K v H b := by
  cases d with
  | non => cases e; cases h.non; rfl
  | bl c => cases e; cases h.bl; rfl
  | int i => cases e; cases h.int; rfl
  | str z =>
    have e : (if fitL z.length then some ((z.length : Int) != 0) else none) = some b := e
    split at e
    · next hf => cases e; cases h.str; exact ⟨fitL_le hf, rfl⟩
    · cases e
  | lst ds =>
    cases e
    obtain ⟨a, xs, rfl, h1, r⟩ := h
    exact .inl ⟨xs, .inl (.inl h1), isEmpty_dvs r⟩
  | tup ds =>
    cases e
    obtain ⟨a, xs, rfl, h1, r⟩ := CR.tup h
    exact .inr (.inl ⟨xs, Same.tupS s h1, isEmpty_dvs r⟩)
  | _ => cases e
theorem sb_tru (h : SH cls own X a fa) (he : ∀ whole, isTrue a X.env whole = (do let v ← whole; standAt a.pos; holding [v] (truthy v)) := by intro _; rfl) : SB cls own X a (bTru fa) := by
  refine pt_imp (pt_truth h he) fun σ H Q q => ?_
  obtain ⟨G, al, m, d, m', r, e, k⟩ := q
  obtain ⟨h1, m1, e1, e⟩ := bind_ok e
  split at e
  · next x l =>
    split at e
    · next b t =>
      cases e
      refine ⟨G, al, m, h1, _, r, e1, fun G1 al1 v H1 ev1 r1 hv1 => ?_⟩
      exact ⟨_, tru_of r1.zh (look_cr r1 hv1 l) t, k G1 al1 H1 ev1 r1⟩
    · cases e
  · cases e
theorem sb_cmp {op : CmpOp} {r : R2} {g : D → D → Option D} (ho : OpR X (compareOp op) r) (hg : OpOk X.kx cls own r g) (ha : SH cls own X a fa) (hb : SH cls own X b fb) (hm : behindInMarks op b = false := by first | exact nobehind _ (by decide) (by decide) | rfl) :
    SB cls own X (.Compare a [op] [b] pos) (bOf (eOp g fa fb)) := by
  refine pt_imp (pt_cmpR ho ha hb hm) fun σ H Q q => ?_
  obtain ⟨G, al, m, d, m', r, e, k⟩ := q
  obtain ⟨d1, m1, e1, e⟩ := bind_ok e
  split at e
  · next c =>
    cases e
    obtain ⟨h1, m1, h2, x, y, e1, e2, l1, l2, gz⟩ := eOp_ok e1
    refine ⟨G, al, m, h1, m1, r, e1, fun G1 al1 v H1 ev1 r1 hv1 => ⟨G1, al1, m1, h2, _, r1, e2, fun G2 al2 u H2 ev2 r2 hv2 => ?_⟩⟩
    refine hg G2 al2 _ σ H2 v u x y _ _ r2 (look_cr r2 (hv1.ev ev2) l1) (look_cr r2 hv2 l2) gz fun G3 al3 w H3 ev3 r3 dv => ?_
    cases dv
    exact ⟨_, rfl, k G3 al3 H3 ((ev1.trans ev2).trans ev3) r3⟩
  · cases e
def bAnd (f g : Den Bool) : Den Bool := f.bind fun c => if c then g else .ret false
def bOr (f g : Den Bool) : Den Bool := f.bind fun c => if c then .ret true else g
def bNot (f : Den Bool) : Den Bool := f.bind fun c => .ret (!c)
abbrev SW (cls : Nat → Addr) (own : Nat → Bool) (X : Cx) (e : Expr) (f : Den Bool) : Prop := PW X e (tDb X.kx cls own f)
theorem pw_imp {X : Cx} {e : Expr} {t t' : TT} (h : PW X e t) (i : ∀ σ H Q, t' σ H Q → t σ H Q) : PW X e t' := ⟨fun w pins s σ H Q I q => h.run w pins s σ H Q I (i σ H Q q)⟩
theorem tAnd_of {K : KX} {f g : Den Bool} {σ : St} {H : Hp} {Q : Bool → Hp → Prop} (q : tDb K cls own (bAnd f g) σ H Q) : tAnd (tDb K cls own f) (tDb K cls own g) σ H Q := by
  obtain ⟨G, al, m, d, m', r, e, k⟩ := q
  obtain ⟨c, m1, e1, e⟩ := bind_ok e
  refine ⟨G, al, m, c, m1, r, e1, fun G1 al1 H1 ev1 r1 => ?_⟩
  cases c with
  | true => exact ⟨G1, al1, m1, d, m', r1, e, fun G2 al2 H2 ev2 r2 => k G2 al2 H2 (ev1.trans ev2) r2⟩
  | false => cases e; exact k G1 al1 H1 ev1 r1
theorem tOr_of {K : KX} {f g : Den Bool} {σ : St} {H : Hp} {Q : Bool → Hp → Prop} (q : tDb K cls own (bOr f g) σ H Q) : tOr (tDb K cls own f) (tDb K cls own g) σ H Q := by
  obtain ⟨G, al, m, d, m', r, e, k⟩ := q
  obtain ⟨c, m1, e1, e⟩ := bind_ok e
  refine ⟨G, al, m, c, m1, r, e1, fun G1 al1 H1 ev1 r1 => ?_⟩
  cases c with
  | false => exact ⟨G1, al1, m1, d, m', r1, e, fun G2 al2 H2 ev2 r2 => k G2 al2 H2 (ev1.trans ev2) r2⟩
  | true => cases e; exact k G1 al1 H1 ev1 r1
theorem sw_and1 {f : Den Bool} (h : SB cls own X a f) : SW cls own X (.BoolOp .And [a] pos) f := pw_and1 h
theorem sw_or1 {f : Den Bool} (h : SB cls own X a f) : SW cls own X (.BoolOp .Or [a] pos) f := pw_or1 h
theorem sw_and {f g : Den Bool} {rest : List Expr} (h : SB cls own X a f) (hr : SW cls own X (.BoolOp .And (b :: rest) pos) g) : SW cls own X (.BoolOp .And (a :: b :: rest) pos) (bAnd f g) := pw_imp (pw_and h hr) fun _ _ _ q => tAnd_of q
theorem sw_or {f g : Den Bool} {rest : List Expr} (h : SB cls own X a f) (hr : SW cls own X (.BoolOp .Or (b :: rest) pos) g) : SW cls own X (.BoolOp .Or (a :: b :: rest) pos) (bOr f g) := pw_imp (pw_or h hr) fun _ _ _ q => tOr_of q
theorem sb_w {f : Den Bool} (h : SW cls own X a f) : SB cls own X a f := h.pt
theorem sb_not {f : Den Bool} (h : SB cls own X a f) : SB cls own X (.UnaryOp .Not a pos) (bNot f) := by
  refine pt_imp (pt_not h) fun σ H Q q => ?_
  obtain ⟨G, al, m, d, m', r, e, k⟩ := q
  obtain ⟨c, m1, e1, e⟩ := bind_ok e
  cases e
  exact ⟨G, al, m, c, _, r, e1, fun G1 al1 H1 ev1 r1 => k G1 al1 H1 ev1 r1⟩
/-! values: and, or, not, if -/
def eAnd (f g : Den D) : Den D := (bOf f).bind fun c => if c then g else .ret (.bl false)
def eOr (f g : Den D) : Den D := (bOf f).bind fun c => if c then .ret (.bl true) else g
def eNot (f : Den D) : Den D := (bOf f).bind fun c => .ret (.bl (!c))
def eIf (c : Den Bool) (f g : Den D) : Den D := c.bind fun c => if c then f else g
theorem bOf_ok {f : Den D} {m m' : MS} {b : Bool} (h : bOf f m = .ok b m') : f m = .ok (.bl b) m' := by
  obtain ⟨d, m1, e1, e⟩ := bind_ok h
  split at e
  · cases e; exact e1
  · cases e
theorem se_one {op} {f : Den D} (h : SE cls own X a f) : SE cls own X (.BoolOp op [a] pos) f := pe_one h
theorem se_and {f g : Den D} {rest : List Expr} (h : SE cls own X a f) (hr : SE cls own X (.BoolOp .And (b :: rest) pos) g) : SE cls own X (.BoolOp .And (a :: b :: rest) pos) (eAnd f g) := by
  refine pe_imp (pe_and h hr) fun σ H Q q => ?_
  obtain ⟨G, al, m, d, m', r, e, k⟩ := q
  obtain ⟨c, m1, e1, e⟩ := bind_ok e
  refine ⟨G, al, m, _, m1, r, bOf_ok e1, fun G1 al1 v H1 ev1 r1 dv => ?_⟩
  cases dv
  refine ⟨c, rfl, ?_⟩
  cases c with
  | true => exact ⟨G1, al1, m1, d, m', r1, e, fun G2 al2 v2 H2 ev2 r2 => k G2 al2 v2 H2 (ev1.trans ev2) r2⟩
  | false => cases e; exact k G1 al1 _ H1 ev1 r1 (.bl _)
theorem se_or {f g : Den D} {rest : List Expr} (h : SE cls own X a f) (hr : SE cls own X (.BoolOp .Or (b :: rest) pos) g) : SE cls own X (.BoolOp .Or (a :: b :: rest) pos) (eOr f g) := by
  refine pe_imp (pe_or h hr) fun σ H Q q => ?_
  obtain ⟨G, al, m, d, m', r, e, k⟩ := q
  obtain ⟨c, m1, e1, e⟩ := bind_ok e
  refine ⟨G, al, m, _, m1, r, bOf_ok e1, fun G1 al1 v H1 ev1 r1 dv => ?_⟩
  cases dv
  refine ⟨c, rfl, ?_⟩
  cases c with
  | false => exact ⟨G1, al1, m1, d, m', r1, e, fun G2 al2 v2 H2 ev2 r2 => k G2 al2 v2 H2 (ev1.trans ev2) r2⟩
  | true => cases e; exact k G1 al1 _ H1 ev1 r1 (.bl _)
theorem se_not {f : Den D} (h : SE cls own X a f) : SE cls own X (.UnaryOp .Not a pos) (eNot f) := by
  refine pe_imp (pe_not h) fun σ H Q q => ?_
  obtain ⟨G, al, m, d, m', r, e, k⟩ := q
  obtain ⟨c, m1, e1, e⟩ := bind_ok e
  cases e
  refine ⟨G, al, m, _, _, r, bOf_ok e1, fun G1 al1 v H1 ev1 r1 dv => ?_⟩
  cases dv
  exact ⟨c, rfl, k G1 al1 _ H1 ev1 r1 (.bl _)⟩
theorem se_if {c : Expr} {fc : Den Bool} {f g : Den D} (hc : SB cls own X c fc) (ha : SE cls own X a f) (hb : SE cls own X b g) : SE cls own X (.IfExp c a b pos) (eIf fc f g) := by
  refine pe_imp (pe_ifExp hc ha hb) fun σ H Q q => ?_
  obtain ⟨G, al, m, d, m', r, e, k⟩ := q
  obtain ⟨c, m1, e1, e⟩ := bind_ok e
  refine ⟨G, al, m, c, m1, r, e1, fun G1 al1 H1 ev1 r1 => ?_⟩
  cases c with
  | true => exact ⟨G1, al1, m1, d, m', r1, e, fun G2 al2 v2 H2 ev2 r2 => k G2 al2 v2 H2 (ev1.trans ev2) r2⟩
  | false => exact ⟨G1, al1, m1, d, m', r1, e, fun G2 al2 v2 H2 ev2 r2 => k G2 al2 v2 H2 (ev1.trans ev2) r2⟩
end
end MI

namespace MI
open PySem PySem.Spec L2

/-! ### methods of an owned slot -/
def isLst : D → Bool
  | .lst _ => true
  | _ => false
/-- slot i's list is changed: g of its items and the arguments: what comes back, the new items -/
def eMut (i : Nat) (g : List D → List D → Option (D × List D)) (fa : Den (List D)) : Den D := fun m => match m.sl[i]? with
  | some (some (.lst _)) => match fa m with
    | .ok xs m1 => match m1.sl[i]? with
      | some (some (.lst ds)) => match g ds xs with
        | some (z, ds') => .ok z { m1 with sl := m1.sl.set i (some (.lst ds')) }
        | none => .bad
      | _ => .bad
    | .bad => .bad
  | _ => .bad
/-- the arguments as values / as they are to be read -/
def aVals (fa : Den (List Hd)) : Den (List D) := fa.bind fun hs => fun m => match looksV hs with
  | some ds => .ok ds m
  | none => .bad
def aLooks (fa : Den (List Hd)) : Den (List D) := fa.bind fun hs => fun m => match looks hs m with
  | some ds => .ok ds m
  | none => .bad
theorem aVals_ok {fa : Den (List Hd)} {m m' : MS} {ds : List D} (e : aVals fa m = .ok ds m') : ∃ hs, fa m = .ok hs m' ∧ looksV hs = some ds := by
  obtain ⟨hs, m1, e1, e⟩ := bind_ok e
  split at e
  · next l => cases e; exact ⟨hs, e1, l⟩
  · cases e
theorem aLooks_ok {fa : Den (List Hd)} {m m' : MS} {ds : List D} (e : aLooks fa m = .ok ds m') : ∃ hs, fa m = .ok hs m' ∧ looks hs m' = some ds := by
  obtain ⟨hs, m1, e1, e⟩ := bind_ok e
  split at e
  · next l => cases e; exact ⟨hs, e1, l⟩
  · cases e
theorem eMut_ok {i : Nat} {g : List D → List D → Option (D × List D)} {fa : Den (List D)} {m m' : MS} {z : D} (e : eMut i g fa m = .ok z m') :
    ∃ ds0 xs m1 ds ds', m.sl[i]? = some (some (.lst ds0)) ∧ fa m = .ok xs m1 ∧ m1.sl[i]? = some (some (.lst ds)) ∧ g ds xs = some (z, ds') ∧ m' = { m1 with sl := m1.sl.set i (some (.lst ds')) } := by
  unfold eMut at e
  split at e
  · next ds0 e0 =>
    split at e
    · next xs m1 e1 =>
      split at e
      · next ds e2 =>
        split at e
        · next z' ds' e3 => cases e; exact ⟨ds0, xs, m1, ds, ds', e0, e1, e2, e3, rfl⟩
        · cases e
      · cases e
    · cases e
  · cases e
def gAppend : List D → List D → Option (D × List D)
  | ds, [x] => if ds.length < sizeLine then some (.non, ds ++ [x]) else none
  | _, _ => none
def gExtend : List D → List D → Option (D × List D)
  | ds, [.lst xs] => if ds.length + xs.length ≤ sizeLine then some (.non, ds ++ xs) else none
  | _, _ => none
def gPop : List D → List D → Option (D × List D)
  | ds, [] => match ds[ds.length - 1]? with
    | some x => some (x, ds.dropLast)
    | none => none
  | _, _ => none
theorem CO.lst {K : KX} {Z : Hp} {al : List Addr} {a : Addr} {o : HO} {ds : List D} (c : CO K Z al a o (.lst ds)) : ∃ xs, o = .lst xs ∧ DVs K Z al xs ds := by
  cases o with
  | lst xs => exact ⟨xs, rfl, c⟩
  | _ => exact (show False from c).elim
theorem DVs.dropLast {K : KX} {Z : Hp} {al : List Addr} {xs : List V} {ds : List D} (h : DVs K Z al xs ds) : DVs K Z al xs.dropLast ds.dropLast := by
  rw [List.dropLast_eq_take, List.dropLast_eq_take, h.length]
  exact h.take _
section
variable {cls : Nat → Addr} {own : Nat → Bool} {X : Cx} {a b : Expr} {fa fb : Den Hd} {pos apos cpos npos : Pos} {es : List Expr} {fs : Den (List Hd)} {i : Nat} {x : Str}
theorem own_lst {K : KX} {G : Gh} {al : List Addr} {m : MS} {σ : St} {H : Hp} {ds : List D} (r : Rst K cls own G al m σ H) (ho : own i = true) (e : m.sl[i]? = some (some (.lst ds))) :
    ∃ a xs, σ[i]? = some (some (.ref a)) ∧ G a = some (.slot i, .lst xs) ∧ H a = some (.lst xs) ∧ DVs K (Zof G) al xs ds := by
  obtain ⟨a, o, h1, h2, h3⟩ := r.own i _ e ho
  obtain ⟨xs, rfl, h4⟩ := h3.lst
  exact ⟨a, xs, h1, h2, r.hst.gh _ _ _ h2, h4⟩
/-- found.append(e) -/
theorem se_append (hN : X.N[i]? = some x) (hv : Vis X.env.scope x) (ho : own i = true) (ha : SHs cls own X (a :: es) fs)
    (hd : (x == ("__debug__" : Str)) = false := by decide) (hcd : (x == ("__classdict__" : Str)) = false := by decide)
    (hbase : attributeBase (.Name x npos) "append" X.env (eval (.Name x npos) X.env) = eval (.Name x npos) X.env := by rfl)
    (hfew : ((backTo cpos (starEach (a :: es) X.env)).all (fun x => !x.1) && (backToKw cpos (keywordEach [] X.env)).all (fun x => x.1.isSome)
      && decide ((a :: es).length + ([] : List Keyword).length + (if ([] : List Keyword).isEmpty then 0 else 1) < 30)) = true := by rfl)
    (hline : (apos.endLine == cpos.line) = true := by rfl) (hs : starEach (a :: es) X.env = (false, eval a X.env) :: starEach es X.env := by rfl) (hplain : (backTo cpos (starEach es X.env)).any (·.1) = false := by rfl) :
    SE cls own X (.Call (.Attribute (.Name x npos) "append" apos) (a :: es) [] cpos) (eMut i gAppend (aVals fs)) := by
  refine pe_imp (pe_bm PySem.F.plainAttrs_list PySem.F.slot_list_append PySem.F.type_list_append mt_append (pe_var (pos := npos) hN hv hd hcd) ha hbase hfew hline hs hplain) fun σ H Q q => ?_
  obtain ⟨G, al, m, d, m', r, e, k⟩ := q
  obtain ⟨ds0, xs, m1, ds, ds', e0, e1, e2, e3, rfl⟩ := eMut_ok e
  obtain ⟨hs, e1, l⟩ := aVals_ok e1
  obtain ⟨p, us0, s0, _, h0, _⟩ := own_lst r ho e0
  refine ⟨.ref p, s0, .inl ⟨rfl, us0, .inl (.inl h0)⟩, G, al, m, hs, m1, r, e1, fun G1 al1 v H1 ev1 r1 hv1 => ?_⟩
  obtain ⟨p', us, s1, g1, h1, c1⟩ := own_lst r1 ho e2
  rw [s0] at s1; cases s1
  unfold gAppend at e3
  split at e3
  · next y =>
    split at e3
    · next hf =>
      cases e3
      have dv := looksV_dv hv1 l
      cases dv with
      | cons d1 d2 =>
        cases d2
        obtain ⟨ev2, r2⟩ := r1.write e2 ho s0 g1 (o' := .lst (us ++ [_])) (d' := .lst (ds ++ [y])) (c1.append (.cons d1 .nil))
        exact ⟨p, us, _, rfl, rfl, h1, by rw [c1.length]; exact hf, k _ _ _ _ (ev1.trans ev2) r2 .non⟩
    · cases e3
  · cases e3
/-- found.extend(e) -/
theorem se_extend (hN : X.N[i]? = some x) (hv : Vis X.env.scope x) (ho : own i = true) (ha : SHs cls own X (a :: es) fs)
    (hd : (x == ("__debug__" : Str)) = false := by decide) (hcd : (x == ("__classdict__" : Str)) = false := by decide)
    (hbase : attributeBase (.Name x npos) "extend" X.env (eval (.Name x npos) X.env) = eval (.Name x npos) X.env := by rfl)
    (hfew : ((backTo cpos (starEach (a :: es) X.env)).all (fun x => !x.1) && (backToKw cpos (keywordEach [] X.env)).all (fun x => x.1.isSome)
      && decide ((a :: es).length + ([] : List Keyword).length + (if ([] : List Keyword).isEmpty then 0 else 1) < 30)) = true := by rfl)
    (hline : (apos.endLine == cpos.line) = true := by rfl) (hs : starEach (a :: es) X.env = (false, eval a X.env) :: starEach es X.env := by rfl) (hplain : (backTo cpos (starEach es X.env)).any (·.1) = false := by rfl) :
    SE cls own X (.Call (.Attribute (.Name x npos) "extend" apos) (a :: es) [] cpos) (eMut i gExtend (aLooks fs)) := by
  refine pe_imp (pe_bm PySem.F.plainAttrs_list PySem.F.slot_list_extend PySem.F.type_list_extend mt_extend (pe_var (pos := npos) hN hv hd hcd) ha hbase hfew hline hs hplain) fun σ H Q q => ?_
  obtain ⟨G, al, m, d, m', r, e, k⟩ := q
  obtain ⟨ds0, xs, m1, ds, ds', e0, e1, e2, e3, rfl⟩ := eMut_ok e
  obtain ⟨hs, e1, l⟩ := aLooks_ok e1
  obtain ⟨p, us0, s0, _, h0, _⟩ := own_lst r ho e0
  refine ⟨.ref p, s0, .inl ⟨rfl, us0, .inl (.inl h0)⟩, G, al, m, hs, m1, r, e1, fun G1 al1 v H1 ev1 r1 hv1 => ?_⟩
  obtain ⟨p', us, s1, g1, h1, c1⟩ := own_lst r1 ho e2
  rw [s0] at s1; cases s1
  unfold gExtend at e3
  split at e3
  · next ys =>
    split at e3
    · next hf =>
      cases e3
      obtain ⟨w, rfl, bq, zs, rfl, hb, rb⟩ := (looks_cr r1 hv1 l).one
      obtain ⟨ev2, r2⟩ := r1.write e2 ho s0 g1 (o' := .lst (us ++ zs)) (d' := .lst (ds ++ ys)) (c1.append rb)
      exact ⟨p, bq, us, zs, rfl, rfl, h1, hb, by rw [c1.length, rb.length]; exact hf, k _ _ _ _ (ev1.trans ev2) r2 .non⟩
    · cases e3
  · cases e3
/-- found.pop() -/
theorem se_pop (hN : X.N[i]? = some x) (hv : Vis X.env.scope x) (ho : own i = true)
    (hd : (x == ("__debug__" : Str)) = false := by decide) (hcd : (x == ("__classdict__" : Str)) = false := by decide)
    (hbase : attributeBase (.Name x npos) "pop" X.env (eval (.Name x npos) X.env) = eval (.Name x npos) X.env := by rfl) (hline : (apos.endLine == cpos.line) = true := by rfl) :
    SE cls own X (.Call (.Attribute (.Name x npos) "pop" apos) [] [] cpos) (eMut i gPop (.ret [])) := by
  refine pe_imp (pe_bm0 PySem.F.plainAttrs_list PySem.F.slot_list_pop PySem.F.type_list_pop mt_pop (pe_var (pos := npos) hN hv hd hcd) hbase hline) fun σ H Q q => ?_
  obtain ⟨G, al, m, d, m', r, e, k⟩ := q
  obtain ⟨ds0, xs, m1, ds, ds', e0, e1, e2, e3, rfl⟩ := eMut_ok e
  cases e1
  obtain ⟨p, us, s0, g1, h0, c1⟩ := own_lst r ho e2
  cases hy : ds[ds.length - 1]? with
  | none =>
    unfold gPop at e3
    simp only [hy] at e3
    cases e3
  | some y =>
    unfold gPop at e3
    simp only [hy] at e3
    cases e3
    obtain ⟨v, hv1, dv⟩ := c1.get hy
    obtain ⟨ev2, r2⟩ := r.write e2 ho s0 g1 (o' := .lst us.dropLast) (d' := .lst ds.dropLast) c1.dropLast
    exact ⟨.ref p, s0, .inl ⟨rfl, us, .inl (.inl h0)⟩, p, us, v, rfl, rfl, h0, by rw [c1.length]; exact hv1, k _ _ _ _ ev2 r2 (dv.ev ev2)⟩
end

/-! ### statements -/
inductive Fl where
  | nx | rt (d : D) | bk | ct
def EndsD (K : KX) (Z : Hp) (al : List Addr) (E : Ends) (σ : St) (H : Hp) : Fl → Prop
  | .nx => E.nx σ H
  | .rt d => ∀ v, DV K Z al v d → E.rt v H
  | .bk => E.bk σ H
  | .ct => E.ct σ H
def tS (K : KX) (cls : Nat → Addr) (own : Nat → Bool) (f : Den Fl) : TS := fun E σ H => ∃ G al m fl m', Rst K cls own G al m σ H ∧ f m = .ok fl m' ∧
  ∀ G' al' σ' H', Ev G al G' al' → Rst K cls own G' al' m' σ' H' → EndsD K (Zof G') al' E σ' H' fl
section
variable (cls : Nat → Addr) (own : Nat → Bool) (X : Cx)
abbrev SS (e : Stmt) (f : Den Fl) : Prop := PS X e (tS X.kx cls own f)
abbrev SSs (e : List Stmt) (f : Den Fl) : Prop := PSs X e (tS X.kx cls own f)
end
def sSeq (f g : Den Fl) : Den Fl := f.bind fun fl => match fl with
  | .nx => g
  | fl => .ret fl
def sNx : Den Fl := .ret .nx
def sDrop (f : Den D) : Den Fl := f.bind fun _ => .ret .nx
def sRet (f : Den D) : Den Fl := f.bind fun d => .ret (.rt d)
def sIf (c : Den Bool) (f g : Den Fl) : Den Fl := c.bind fun b => if b then f else g
def sSet (i : Nat) (f : Den D) : Den Fl := f.bind fun d => fun m => .ok .nx { m with sl := m.sl.set i (some d) }
section
variable {cls : Nat → Addr} {own : Nat → Bool} {X : Cx} {a b : Expr} {pos : Pos} {st : Stmt} {sts : List Stmt} {f g : Den Fl}
theorem ss_nil : SSs cls own X [] sNx := pss_imp pss_nil fun E σ H ⟨G, al, m, fl, m', r, e, k⟩ => by cases e; exact k G al σ H .refl r
theorem ss_cons (h : SS cls own X st f) (hr : SSs cls own X sts g) : SSs cls own X (st :: sts) (sSeq f g) := by
  refine pss_imp (pss_cons h hr) fun E σ H q => ?_
  obtain ⟨G, al, m, fl, m', r, e, k⟩ := q
  obtain ⟨fl1, m1, e1, e⟩ := bind_ok e
  refine ⟨G, al, m, fl1, m1, r, e1, fun G1 al1 σ1 H1 ev1 r1 => ?_⟩
  cases fl1 with
  | nx => exact ⟨G1, al1, m1, fl, m', r1, e, fun G2 al2 σ2 H2 ev2 r2 => k G2 al2 σ2 H2 (ev1.trans ev2) r2⟩
  | rt d => cases e; exact k G1 al1 σ1 H1 ev1 r1
  | bk => cases e; exact k G1 al1 σ1 H1 ev1 r1
  | ct => cases e; exact k G1 al1 σ1 H1 ev1 r1
theorem ss_one (h : SS cls own X st f) : SSs cls own X [st] f := pss_one h
theorem ss_pass : SS cls own X (.Pass pos) sNx := ps_imp ps_pass fun E σ H ⟨G, al, m, fl, m', r, e, k⟩ => by cases e; exact k G al σ H .refl r
theorem ss_continue : SS cls own X (.Continue pos) (.ret .ct) := ps_imp ps_continue fun E σ H ⟨G, al, m, fl, m', r, e, k⟩ => by cases e; exact k G al σ H .refl r
theorem ss_break : SS cls own X (.Break pos) (.ret .bk) := ps_imp ps_break fun E σ H ⟨G, al, m, fl, m', r, e, k⟩ => by cases e; exact k G al σ H .refl r
theorem ss_never : SS cls own X st (fun _ => .bad) := ps_imp ps_never fun E σ H ⟨G, al, m, fl, m', r, e, k⟩ => by cases e
theorem ss_expr {fe : Den D} (h : SE cls own X a fe) (hs : swapsWith a none pos.line X.env = pure false := by rfl) : SS cls own X (.Expr a pos) (sDrop fe) := by
  refine ps_imp (ps_expr h hs) fun E σ H q => ?_
  obtain ⟨G, al, m, fl, m', r, e, k⟩ := q
  obtain ⟨d, m1, e1, e⟩ := bind_ok e
  cases e
  exact ⟨G, al, m, d, _, r, e1, fun G1 al1 v H1 ev1 r1 dv => k G1 al1 σ H1 ev1 r1⟩
theorem ss_ret {fe : Den D} (h : SE cls own X a fe) : SS cls own X (.Return (some a) pos) (sRet fe) := by
  refine ps_imp (ps_ret h) fun E σ H q => ?_
  obtain ⟨G, al, m, fl, m', r, e, k⟩ := q
  obtain ⟨d, m1, e1, e⟩ := bind_ok e
  cases e
  exact ⟨G, al, m, d, _, r, e1, fun G1 al1 v H1 ev1 r1 dv => k G1 al1 σ H1 ev1 r1 v dv⟩
theorem ss_if {c : Expr} {sa sb : List Stmt} {fc : Den Bool} (hc : SB cls own X c fc) (ha : SSs cls own X sa f) (hb : SSs cls own X sb g) : SS cls own X (.If c sa sb pos) (sIf fc f g) := by
  refine ps_imp (ps_if hc ha hb) fun E σ H q => ?_
  obtain ⟨G, al, m, fl, m', r, e, k⟩ := q
  obtain ⟨d, m1, e1, e⟩ := bind_ok e
  refine ⟨G, al, m, d, m1, r, e1, fun G1 al1 H1 ev1 r1 => ?_⟩
  cases d with
  | true => exact ⟨G1, al1, m1, fl, m', r1, e, fun G2 al2 σ2 H2 ev2 r2 => k G2 al2 σ2 H2 (ev1.trans ev2) r2⟩
  | false => exact ⟨G1, al1, m1, fl, m', r1, e, fun G2 al2 σ2 H2 ev2 r2 => k G2 al2 σ2 H2 (ev1.trans ev2) r2⟩
theorem ss_set {i : Nat} {x : Str} {pos' : Pos} {fe : Den D} (ho : own i = false) (hN : X.N.Nodup) (hi : X.N[i]? = some x) (hx : Loc X.env.scope x) (h : SE cls own X a fe) (hs : swapsWith a (some (.Name x pos')) pos.line X.env = pure false := by rfl)
    (hf : X.fn x = true ∨ X.env.scope.names.lookup x = some .local := by first | exact .inl rfl | exact .inr rfl | assumption) : SS cls own X (.Assign [.Name x pos'] a pos) (sSet i fe) := by
  refine ps_imp (ps_set hN hi hx h hs hf) fun E σ H q => ?_
  obtain ⟨G, al, m, fl, m', r, e, k⟩ := q
  obtain ⟨d, m1, e1, e⟩ := bind_ok e
  cases e
  exact ⟨G, al, m, d, _, r, e1, fun G1 al1 v H1 ev1 r1 dv => k G1 al1 _ H1 ev1 (r1.set dv ho)⟩
theorem ss_own {i : Nat} {x : Str} {pos' : Pos} {fe : Den D} (ho : own i = true) (hN : X.N.Nodup) (hi : X.N[i]? = some x) (hx : Loc X.env.scope x) (h : SF cls own X a fe) (hs : swapsWith a (some (.Name x pos')) pos.line X.env = pure false := by rfl)
    (hf : X.fn x = true ∨ X.env.scope.names.lookup x = some .local := by first | exact .inl rfl | exact .inr rfl | assumption) : SS cls own X (.Assign [.Name x pos'] a pos) (sSet i fe) := by
  refine ps_imp (ps_set hN hi hx h hs hf) fun E σ H q => ?_
  obtain ⟨G, al, m, fl, m', r, e, k⟩ := q
  obtain ⟨d, m1, e1, e⟩ := bind_ok e
  cases e
  exact ⟨G, al, m, d, _, r, e1, fun G1 al1 p o H1 ev1 r1 hp hn c => k _ al1 _ H1 (ev1.trans (ev_put hn)) (r1.setOwn hp hn c ho)⟩
end
end MI

namespace MI
open PySem PySem.Spec L2

/-! ### targets -/
inductive Tg where
  | nm (i : Nat)
  | tp (ts : List Tg)
mutual
def tgSet : Tg → D → List (Option D) → Option (List (Option D))
  | .nm i, d, sl => some (sl.set i (some d))
  | .tp ts, .tup ds, sl => tgSets ts ds sl
  | .tp _, _, _ => none
def tgSets : List Tg → List D → List (Option D) → Option (List (Option D))
  | [], [], sl => some sl
  | t :: ts, d :: ds, sl => match tgSet t d sl with
    | some sl' => tgSets ts ds sl'
    | none => none
  | _, _, _ => none
end
mutual
def tgSlots : Tg → List Nat
  | .nm i => [i]
  | .tp ts => tgSlotss ts
def tgSlotss : List Tg → List Nat
  | [] => []
  | t :: ts => tgSlots t ++ tgSlotss ts
end
/-- the slots beside vs are as they were -/
def Beside (vs : List Nat) (σ σ' : St) : Prop := σ'.length = σ.length ∧ ∀ j, j ∉ vs → σ'[j]? = σ[j]?
theorem Beside.trans {vs ws us : List Nat} {σ σ1 σ2 : St} (a : Beside vs σ σ1) (b : Beside ws σ1 σ2) (h1 : ∀ j ∈ vs, j ∈ us) (h2 : ∀ j ∈ ws, j ∈ us) : Beside us σ σ2 :=
  ⟨b.1.trans a.1, fun j hj => (b.2 j fun h => hj (h2 j h)).trans (a.2 j fun h => hj (h1 j h))⟩
def tG (K : KX) (cls : Nat → Addr) (own : Nat → Bool) (tg : Tg) : TG := fun v σ H Q => ∃ G al m d sl', Rst K cls own G al m σ H ∧ DV K (Zof G) al v d ∧ tgSet tg d m.sl = some sl' ∧
  ∀ σ', Rst K cls own G al { m with sl := sl' } σ' H → Beside (tgSlots tg) σ σ' → Q σ' H
def tGs (K : KX) (cls : Nat → Addr) (own : Nat → Bool) (tg : List Tg) : TGs := fun vs σ H Q => ∃ G al m ds sl', Rst K cls own G al m σ H ∧ DVs K (Zof G) al vs ds ∧ tgSets tg ds m.sl = some sl' ∧
  ∀ σ', Rst K cls own G al { m with sl := sl' } σ' H → Beside (tgSlotss tg) σ σ' → Q σ' H
theorem pg_imp {X : Cx} {e : Expr} {t t' : TG} (h : PG X e t) (i : ∀ v σ H Q, t' v σ H Q → t v σ H Q) : PG X e t' := ⟨fun pins s σ H v u Q I r q => h.run pins s σ H v u Q I r (i v σ H Q q)⟩
theorem pgs_imp {X : Cx} {e : List Expr} {t t' : TGs} (h : PGs X e t) (i : ∀ v σ H Q, t' v σ H Q → t v σ H Q) : PGs X e t' := ⟨fun pins s σ H v u Q I r q => h.run pins s σ H v u Q I r (i v σ H Q q)⟩
section
variable (cls : Nat → Addr) (own : Nat → Bool) (X : Cx)
abbrev SG (e : Expr) (f : Tg) : Prop := PG X e (tG X.kx cls own f)
abbrev SGs (e : List Expr) (f : List Tg) : Prop := PGs X e (tGs X.kx cls own f)
end
section
variable {cls : Nat → Addr} {own : Nat → Bool} {X : Cx} {a b : Expr} {pos : Pos} {es : List Expr} {tg : Tg} {tgs : List Tg}
theorem sg_name {i : Nat} {x : Str} (ho : own i = false) (hN : X.N.Nodup) (hi : X.N[i]? = some x) (hx : Loc X.env.scope x) (hf : X.fn x = true ∨ X.env.scope.names.lookup x = some .local := by first | exact .inl rfl | exact .inr rfl | assumption) : SG cls own X (.Name x pos) (.nm i) := by
  refine pg_imp (pg_name hN hi hx hf) fun v σ H Q q => ?_
  obtain ⟨G, al, m, d, sl', r, dv, e, k⟩ := q
  cases e
  exact k _ (r.set dv ho) ⟨by simp, fun j hj => by rw [List.getElem?_set_ne]; intro z; exact hj (by simp [tgSlots, z])⟩
theorem sgs_nil : SGs cls own X [] [] := by
  refine pgs_imp pgs_nil fun v σ H Q q => ?_
  obtain ⟨G, al, m, ds, sl', r, dv, e, k⟩ := q
  cases dv with
  | nil => cases e; exact ⟨rfl, k σ r ⟨rfl, fun _ _ => rfl⟩⟩
  | cons _ _ => cases e
theorem sgs_cons (h : SG cls own X a tg) (hr : SGs cls own X es tgs) (hs : (assignEach (a :: es) X.env).map (·.2) = assign a X.env :: (assignEach es X.env).map (·.2) := by rfl) : SGs cls own X (a :: es) (tg :: tgs) := by
  refine pgs_imp (pgs_cons h hr hs) fun v σ H Q q => ?_
  obtain ⟨G, al, m, ds, sl', r, dv, e, k⟩ := q
  cases dv with
  | nil => cases e
  | cons d1 d2 =>
    rename_i v1 vs d ds
    have e : (match tgSet tg d m.sl with | some sl' => tgSets tgs ds sl' | none => none) = some sl' := e
    split at e
    · next sl1 e1 =>
      refine ⟨v1, vs, rfl, G, al, m, d, sl1, r, d1, e1, fun σ1 r1 b1 => ?_⟩
      exact ⟨G, al, _, ds, sl', r1, d2, e, fun σ2 r2 b2 => k σ2 r2 (b1.trans b2 (fun j h => by simp [tgSlotss, h]) (fun j h => by simp [tgSlotss, h]))⟩
    · cases e
theorem tgSets_len : ∀ {ts : List Tg} {ds : List D} {sl sl' : List (Option D)}, tgSets ts ds sl = some sl' → ds.length = ts.length
  | [], [], _, _, _ => rfl
  | [], _ :: _, _, _, e => by cases e
  | _ :: _, [], _, _, e => by cases e
  | t :: ts, d :: ds, sl, sl', e => by
    rw [tgSets] at e
    split at e
    · rw [List.length_cons, List.length_cons, tgSets_len e]
    · cases e
theorem sg_tup {n k0 : Nat} (hc : X.calm = true) (h : SGs cls own X es tgs) (hl : tgs.length = n) (hn : (assignEach es X.env).length = n := by rfl) (hst : (assignEach es X.env).findIdx? (·.1) = none := by rfl) : SG cls own X (.Tuple es k0 pos) (.tp tgs) := by
  refine pg_imp (pg_tup hc h hn hst) fun v σ H Q q => ?_
  obtain ⟨G, al, m, d, sl', r, dv, e, k⟩ := q
  cases d with
  | tup ds =>
    have e : tgSets tgs ds m.sl = some sl' := e
    cases dv with
    | tup h1 r1 => exact ⟨_, _, rfl, Same.tupS r.zh h1, by rw [r1.length, tgSets_len e, hl], G, al, m, ds, sl', r, r1, e, fun σ' r' b => k σ' r' b⟩
  | _ => cases e
/-- target = value -/
def sAsg (tg : Tg) (f : Den D) : Den Fl := f.bind fun d => fun m => match tgSet tg d m.sl with
  | some sl => .ok .nx { m with sl := sl }
  | none => .bad
theorem ss_asg {fe : Den D} (he : SE cls own X a fe) (hg : SG cls own X b tg) (hs : swapsWithSole [b] a pos.line X.env = pure false := by rfl) (hw : swappedStores [b] a X.env = pure none := by rfl)
    (h1 : (assignEach [b] X.env).map (·.2) = [assign b X.env] := by rfl) : SS cls own X (.Assign [b] a pos) (sAsg tg fe) := by
  refine ps_imp (ps_asg he hg hs hw h1) fun E σ H q => ?_
  obtain ⟨G, al, m, fl, m', r, e, k⟩ := q
  obtain ⟨d, m1, e1, e⟩ := bind_ok e
  split at e
  · next sl e2 =>
    cases e
    refine ⟨G, al, m, d, m1, r, e1, fun G1 al1 v H1 ev1 r1 dv => ?_⟩
    exact ⟨G1, al1, m1, d, sl, r1, dv, e2, fun σ' r' _ => k G1 al1 σ' H1 ev1 r'⟩
  · cases e
end

/-! ### sources -/
structure WalkD (K : KX) (cls : Nat → Addr) (own : Nat → Bool) (J : It) (ds : List D) (Gs : Gh) (als : List Addr) : Prop where
  goes : ∀ G al m σ H i, EvZ Gs als G al → Rst K cls own G al m σ H → i < ds.length → J.go i H
  stops : ∀ G al m σ H, EvZ Gs als G al → Rst K cls own G al m σ H → J.stop ds.length H
  yields : ∀ G al m σ H i x H' d, EvZ Gs als G al → Rst K cls own G al m σ H → ds[i]? = some d → J.yld i H x H' → ∃ G', Ev G al G' al ∧ Rst K cls own G' al m σ H' ∧ DV K (Zof G') al x d ∧ (∀ a t o, G a = some (t, o) → G' a = some (t, o))
def tI (K : KX) (cls : Nat → Addr) (own : Nat → Bool) (f : Den (List D)) : TI := fun σ H R => ∃ G al m ds m', Rst K cls own G al m σ H ∧ f m = .ok ds m' ∧
  ∀ G' al' H' J, Ev G al G' al' → Rst K cls own G' al' m' σ H' → WalkD K cls own J ds G' al' → R J H'
theorem pi_imp {X : Cx} {tg e : Expr} {t t' : TI} (h : PI X tg e t) (i : ∀ σ H Q, t' σ H Q → t σ H Q) : PI X tg e t' := ⟨fun pins s σ H Q I q => h.run pins s σ H Q I (i σ H Q q)⟩
abbrev SI (cls : Nat → Addr) (own : Nat → Bool) (X : Cx) (tg e : Expr) (f : Den (List D)) : Prop := PI X tg e (tI X.kx cls own f)
/-- a list or a tuple, by its value -/
def iSeq (f : Den D) : Den (List D) := f.bind fun d => fun m => match d with
  | .lst ds => .ok ds m
  | .tup ds => .ok ds m
  | _ => .bad
section
variable {cls : Nat → Addr} {own : Nat → Bool} {X : Cx} {tg a b : Expr} {pos : Pos}
/-- the walked thing is a list or a tuple -/
theorem pi_seq {l : Expr} {tl : TE} (hl : PE X l tl) : PI X tg l (fun σ H R => tl σ H fun x H1 => iList X.K (tC x) σ H1 R ∨ iTup X.K (tC x) σ H1 R) := by
  refine ⟨fun pins s σ H R I h => ?_⟩
  refine thn (hl.run pins s σ H _ I h) fun v s1 ⟨x, H1, I1, rx, q⟩ => ?_
  rcases q with ⟨a, e, ⟨xs, hq⟩, q⟩ | ⟨a, e, ⟨xs, hq⟩, q⟩
  · subst e
    cases rx
    obtain ⟨its, rv, pl, hz⟩ := I1.list hq
    refine wpAny_pyIter_list pl.isList ⟨s1.heap.objs.size, [s1.heap.objs.size], _, _, H1, rfl, I1.kept (t' := s1.toks) (fun c o hc => Heap.get?_push_of_some _ hc), turn_list a _, ⟨_, Heap.get?_push_size _ rfl, rfl, rfl⟩, fun c hc => ?_, q⟩
    rw [List.mem_singleton.mp hc]
    exact I1.fpOk (Nat.le_refl _) (I1.hok.fresh (Nat.le_refl _))
  · subst e
    cases rx
    obtain ⟨its, rv, pl, hz⟩ := I1.tuple hq
    refine wpAny_pyIter_tuple (show s1.heap.IsTuple a its.toArray from pl) ⟨s1.heap.objs.size, [s1.heap.objs.size], _, _, H1, rfl, I1.kept (t' := s1.toks) (fun c o hc => Heap.get?_push_of_some _ hc), turn_tuple a _, ⟨_, Heap.get?_push_size _ rfl, rfl, rfl⟩, fun c hc => ?_, q⟩
    rw [List.mem_singleton.mp hc]
    exact I1.fpOk (Nat.le_refl _) (I1.hok.fresh (Nat.le_refl _))
theorem walk_lst {K : KX} {Gs : Gh} {als : List Addr} {p : Addr} {xs : List V} {ds : List D} (h : Zof Gs p = some (.lst xs)) (r : DVs K (Zof Gs) als xs ds) : WalkD K cls own (Itl K.K p) ds Gs als where
  goes := fun G al m σ H i ev rs hi => by
    obtain ⟨v, h1, _⟩ := r.get (List.getElem?_eq_getElem hi)
    exact ⟨xs, v, .inl (.inl (rs.zh _ _ (ev.same _ _ h))), h1⟩
  stops := fun G al m σ H ev rs => ⟨xs, .inl (.inl (rs.zh _ _ (ev.same _ _ h))), by rw [r.length]; exact Nat.le_refl _⟩
  yields := fun G al m σ H i x H' d ev rs hd y => by
    obtain ⟨e1, e2⟩ := y
    subst e1
    obtain ⟨v, h1, h2⟩ := (r.evz ev).get hd
    have := e2 xs (.inl (.inl (rs.zh _ _ (ev.same _ _ h))))
    rw [h1] at this; cases this
    exact ⟨G, .refl, rs, h2, fun _ _ _ q => q⟩
theorem walk_tupD {K : KX} {Gs : Gh} {als : List Addr} {p : Addr} {xs : List V} {ds : List D} (h : SqN K.K (Zof Gs) p xs) (r : DVs K (Zof Gs) als xs ds) : WalkD K cls own (Itt K.K p) ds Gs als where
  goes := fun G al m σ H i ev rs hi => by
    obtain ⟨v, h1, _⟩ := r.get (List.getElem?_eq_getElem hi)
    exact ⟨xs, v, Same.tupS rs.zh (Same.tupN ev.same h), h1⟩
  stops := fun G al m σ H ev rs => ⟨xs, Same.tupS rs.zh (Same.tupN ev.same h), by rw [r.length]; exact Nat.le_refl _⟩
  yields := fun G al m σ H i x H' d ev rs hd y => by
    obtain ⟨e1, e2⟩ := y
    subst e1
    obtain ⟨v, h1, h2⟩ := (r.evz ev).get hd
    have := e2 xs (Same.tupS rs.zh (Same.tupN ev.same h))
    rw [h1] at this; cases this
    exact ⟨G, .refl, rs, h2, fun _ _ _ q => q⟩
theorem si_seq {f : Den D} (h : SE cls own X a f) : SI cls own X tg a (iSeq f) := by
  refine pi_imp (pi_seq h) fun σ H R q => ?_
  obtain ⟨G, al, m, ds, m', r, e, k⟩ := q
  obtain ⟨d, m1, e1, e⟩ := bind_ok e
  refine ⟨G, al, m, d, m1, r, e1, fun G1 al1 v H1 ev1 r1 dv => ?_⟩
  split at e
  · cases e
    cases dv with
    | lst h1 h2 => exact .inl ⟨_, rfl, ⟨_, .inl (.inl (r1.zh _ _ h1))⟩, k G1 al1 H1 _ ev1 r1 (walk_lst h1 h2)⟩
  · cases e
    cases dv with
    | tup h1 h2 => exact .inr ⟨_, rfl, ⟨_, Same.tupS r1.zh h1⟩, k G1 al1 H1 _ ev1 r1 (walk_tupD h1 h2)⟩
  · cases e
end
end MI

namespace MI
open PySem PySem.Spec L2

def rangeD (lo : Int) : Nat → List D
  | 0 => []
  | n + 1 => .int lo :: rangeD (lo + 1) n
theorem rangeD_len : ∀ (n : Nat) (lo : Int), (rangeD lo n).length = n
  | 0, _ => rfl
  | n + 1, lo => by rw [rangeD, List.length_cons, rangeD_len n]
theorem rangeD_get : ∀ (n : Nat) (lo : Int) (i : Nat), i < n → (rangeD lo n)[i]? = some (.int (lo + i))
  | 0, _, _, h => by omega
  | n + 1, lo, 0, _ => by rw [rangeD]; simp
  | n + 1, lo, i + 1, h => by
    rw [rangeD, List.getElem?_cons_succ, rangeD_get n (lo + 1) i (by omega)]
    congr 2
    omega
theorem walk_rng {K : KX} {cls : Nat → Addr} {own : Nat → Bool} {Gs : Gh} {als : List Addr} {lo : Int} {n : Nat} : WalkD K cls own (Itr lo n) (rangeD lo n) Gs als where
  goes := fun G al m σ H i ev rs hi => by rw [rangeD_len] at hi; exact hi
  stops := fun G al m σ H ev rs => by rw [rangeD_len]; exact Nat.le_refl n
  yields := fun G al m σ H i x H' d ev rs hd y => by
    obtain ⟨e1, e2⟩ := y
    subst e1
    have hi : i < n := by
      have := (List.getElem?_eq_some_iff.mp hd).1
      rw [rangeD_len] at this; exact this
    rw [rangeD_get n lo i hi] at hd
    cases hd
    subst e2
    exact ⟨G, .refl, rs, .int _, fun _ _ _ q => q⟩
def smallI (i : Int) : Bool := decide (-(2 ^ 62) ≤ i) && decide (i < 2 ^ 62)
def iRange1 (f : Den (List Hd)) : Den (List D) := f.bind fun hs => fun m => match looksV hs with
  | some [.int j] => if smallI j then .ok (rangeD 0 j.toNat) m else .bad
  | _ => .bad
def iRange2 (f : Den (List Hd)) : Den (List D) := f.bind fun hs => fun m => match looksV hs with
  | some [.int i, .int j] => if smallI i && smallI j then .ok (rangeD i (j - i).toNat) m else .bad
  | _ => .bad
theorem smallI_le {i : Int} (h : smallI i = true) : -(2 ^ 62) ≤ i ∧ i < 2 ^ 62 := by
  unfold smallI at h
  rw [Bool.and_eq_true] at h
  exact ⟨of_decide_eq_true h.1, of_decide_eq_true h.2⟩
section
variable {cls : Nat → Addr} {own : Nat → Bool} {X : Cx} {tg a b : Expr} {pos p : Pos} {fs : Den (List Hd)}
theorem si_range1 (hg : Gl X "range") (hm : X.mg "range" = none) (ha : SHs cls own X [a] fs) (hs : starEach [a] X.env = [(false, eval a X.env)] := by rfl) : SI cls own X tg (.Call (.Name "range" p) [a] [] pos) (iRange1 fs) := by
  refine pi_imp (pi_range1 hg hm ha hs) fun σ H R q => ?_
  obtain ⟨G, al, m, ds, m', r, e, k⟩ := q
  obtain ⟨hs, m1, e1, e⟩ := bind_ok e
  refine ⟨G, al, m, hs, m1, r, e1, fun G1 al1 v H1 ev1 r1 hv => ?_⟩
  split at e
  · next j l =>
    split at e
    · next hsm =>
      cases e
      have dv := looksV_dv hv l
      cases dv with
      | cons d1 d2 =>
        cases d2
        cases d1
        obtain ⟨s1, s2⟩ := smallI_le hsm
        exact ⟨j, rfl, s1, s2, k G1 al1 H1 (Itr 0 j.toNat) ev1 r1 walk_rng⟩
    · cases e
  · cases e
theorem si_range2 (hg : Gl X "range") (hm : X.mg "range" = none) (ha : SHs cls own X [a, b] fs) (hs : starEach [a, b] X.env = [(false, eval a X.env), (false, eval b X.env)] := by rfl) (hs2 : starEach [b] X.env = [(false, eval b X.env)] := by rfl) :
    SI cls own X tg (.Call (.Name "range" p) [a, b] [] pos) (iRange2 fs) := by
  refine pi_imp (pi_range2 hg hm ha hs hs2) fun σ H R q => ?_
  obtain ⟨G, al, m, ds, m', r, e, k⟩ := q
  obtain ⟨hs, m1, e1, e⟩ := bind_ok e
  refine ⟨G, al, m, hs, m1, r, e1, fun G1 al1 v H1 ev1 r1 hv => ?_⟩
  split at e
  · next i j l =>
    split at e
    · next hsm =>
      cases e
      have dv := looksV_dv hv l
      cases dv with
      | cons d1 d2 =>
        cases d2 with
        | cons d2 d3 =>
          cases d3
          cases d1
          cases d2
          rw [Bool.and_eq_true] at hsm
          obtain ⟨s1, s2⟩ := smallI_le hsm.1
          obtain ⟨s3, s4⟩ := smallI_le hsm.2
          exact ⟨i, j, rfl, ⟨s1, s2, s3, s4⟩, k G1 al1 H1 _ ev1 r1 walk_rng⟩
    · cases e
  · cases e
end

/-! ### for -/
def loopD (tg : Tg) (body : Den Fl) : List D → Den Fl
  | [] => .ret .nx
  | d :: ds => fun m => match tgSet tg d m.sl with
    | none => .bad
    | some sl => match body { m with sl := sl } with
      | .ok .nx m2 => loopD tg body ds m2
      | .ok .ct m2 => loopD tg body ds m2
      | .ok .bk m2 => .ok .nx m2
      | .ok (.rt d) m2 => .ok (.rt d) m2
      | .bad => .bad
def sFor (src : Den (List D)) (tg : Tg) (body : Den Fl) : Den Fl := src.bind fun ds => loopD tg body ds
section
variable {cls : Nat → Addr} {own : Nat → Bool} {X : Cx} {te a b : Expr} {pos : Pos} {src : Den (List D)} {tg : Tg} {body : Den Fl} {sts : List Stmt}
theorem ss_for (hp : PassesOwn (model X.prog X.w) X.A X.env X.xe) (hc : X.calm = true) (hi : SI cls own X te a src) (hg : SG cls own X te tg) (hb : SSs cls own X sts body)
    (hs : ∀ x, foldedSetIterable a X.env x = pure x := by intro _; rfl) : SS cls own X (.For te a sts [] pos) (sFor src tg body) := by
  refine ps_imp (ps_for hp hc hi hg hb hs) fun E σ H q => ?_
  obtain ⟨G, al, m, fl, m', r, e, k⟩ := q
  obtain ⟨ds, m1, e1, e⟩ := bind_ok e
  refine ⟨G, al, m, ds, m1, r, e1, fun G1 al1 H1 J ev1 r1 wk => ?_⟩
  refine ⟨fun i n σ H => n = ds.length - i ∧ i ≤ ds.length ∧ ∃ G2 al2 m2, Ev G1 al1 G2 al2 ∧ Rst X.kx cls own G2 al2 m2 σ H ∧ loopD tg body (ds.drop i) m2 = .ok fl m', ⟨ds.length, rfl, Nat.zero_le _, G1, al1, m1, .refl, r1, e⟩, ?_⟩
  rintro i n σ2 H2 ⟨rfl, hi, G2, al2, m2, ev2, r2, e2⟩
  by_cases hlt : i < ds.length
  · refine .inr ⟨wk.goes G2 al2 m2 σ2 H2 i ev2.z r2 hlt, fun σ3 H3 => ∃ G3 al3 m3, Ev G1 al1 G3 al3 ∧ Rst X.kx cls own G3 al3 m3 σ3 H3 ∧ loopD tg body (ds.drop (i + 1)) m3 = .ok fl m', fun σ3 H3 q3 => ⟨ds.length - (i + 1), by omega, rfl, hlt, q3⟩, fun x H3 y => ?_⟩
    have hd : ds[i]? = some ds[i] := List.getElem?_eq_getElem hlt
    obtain ⟨G3, ev3, r3, dv, _⟩ := wk.yields G2 al2 m2 σ2 H2 i x H3 _ ev2.z r2 hd y
    rw [List.drop_eq_getElem_cons hlt, loopD] at e2
    dsimp only at e2
    split at e2
    · cases e2
    · next sl e3 =>
      refine ⟨G3, al2, m2, _, sl, r3, dv, e3, fun σ4 r4 _ => ?_⟩
      split at e2
      · next m5 e5 => exact ⟨G3, al2, _, .nx, m5, r4, e5, fun G6 al6 σ6 H6 ev6 r6 => ⟨G6, al6, m5, (ev2.trans ev3).trans ev6, r6, e2⟩⟩
      · next m5 e5 => exact ⟨G3, al2, _, .ct, m5, r4, e5, fun G6 al6 σ6 H6 ev6 r6 => ⟨G6, al6, m5, (ev2.trans ev3).trans ev6, r6, e2⟩⟩
      · next m5 e5 =>
        cases e2
        exact ⟨G3, al2, _, .bk, _, r4, e5, fun G6 al6 σ6 H6 ev6 r6 => k G6 al6 σ6 H6 (ev1.trans ((ev2.trans ev3).trans ev6)) r6⟩
      · next d5 m5 e5 =>
        cases e2
        exact ⟨G3, al2, _, .rt d5, _, r4, e5, fun G6 al6 σ6 H6 ev6 r6 => k G6 al6 σ6 H6 (ev1.trans ((ev2.trans ev3).trans ev6)) r6⟩
      · cases e2
  · have en : i = ds.length := by omega
    subst en
    rw [List.drop_length] at e2
    cases e2
    exact .inl ⟨wk.stops G2 al2 _ σ2 H2 ev2.z r2, k G2 al2 σ2 H2 (ev1.trans ev2) r2⟩

theorem iteT' {p q : Prop} (h : p) : if true = true then p else q := h
theorem iteF' {p q : Prop} (h : q) : if false = true then p else q := h
/-! ### while -/
def sWhile (c : Den Bool) (body : Den Fl) : Nat → Den Fl
  | 0 => fun _ => .bad
  | n + 1 => fun m => match c m with
    | .ok true m1 => match body m1 with
      | .ok .nx m2 => sWhile c body n m2
      | .ok .ct m2 => sWhile c body n m2
      | .ok .bk m2 => .ok .nx m2
      | .ok (.rt d) m2 => .ok (.rt d) m2
      | .bad => .bad
    | .ok false m1 => .ok .nx m1
    | .bad => .bad
theorem ss_while {fc : Den Bool} {n : Nat} (hp : PassesOwn (model X.prog X.w) X.A X.env X.xe) (hc : SB cls own X a fc) (hb : SSs cls own X sts body) : SS cls own X (.While a sts [] pos) (sWhile fc body n) := by
  refine ps_imp (ps_while hp hc hb) fun E σ H q => ?_
  obtain ⟨G, al, m, fl, m', r, e, k⟩ := q
  refine ⟨fun n σ H => ∃ G2 al2 m2, Ev G al G2 al2 ∧ Rst X.kx cls own G2 al2 m2 σ H ∧ sWhile fc body n m2 = .ok fl m', ⟨n, G, al, m, .refl, r, e⟩, ?_⟩
  rintro n σ2 H2 ⟨G2, al2, m2, ev2, r2, e2⟩
  cases n with
  | zero => cases e2
  | succ n =>
    rw [sWhile] at e2
    dsimp only at e2
    split at e2
    · next m3 e3 =>
      refine ⟨G2, al2, m2, true, m3, r2, e3, fun G3 al3 H3 ev3 r3 => ?_⟩
      refine iteT' ?_
      refine ⟨fun σ4 H4 => ∃ G4 al4 m4, Ev G al G4 al4 ∧ Rst X.kx cls own G4 al4 m4 σ4 H4 ∧ sWhile fc body n m4 = .ok fl m', fun σ4 H4 q4 => ⟨n, Nat.lt_succ_self n, q4⟩, ?_⟩
      split at e2
      · next m5 e5 => exact ⟨G3, al3, m3, .nx, m5, r3, e5, fun G6 al6 σ6 H6 ev6 r6 => ⟨G6, al6, m5, (ev2.trans ev3).trans ev6, r6, e2⟩⟩
      · next m5 e5 => exact ⟨G3, al3, m3, .ct, m5, r3, e5, fun G6 al6 σ6 H6 ev6 r6 => ⟨G6, al6, m5, (ev2.trans ev3).trans ev6, r6, e2⟩⟩
      · next m5 e5 =>
        cases e2
        exact ⟨G3, al3, m3, .bk, _, r3, e5, fun G6 al6 σ6 H6 ev6 r6 => k G6 al6 σ6 H6 ((ev2.trans ev3).trans ev6) r6⟩
      · next d5 m5 e5 =>
        cases e2
        exact ⟨G3, al3, m3, .rt d5, _, r3, e5, fun G6 al6 σ6 H6 ev6 r6 => k G6 al6 σ6 H6 ((ev2.trans ev3).trans ev6) r6⟩
      · cases e2
    · next m3 e3 =>
      cases e2
      refine ⟨G2, al2, m2, false, _, r2, e3, fun G3 al3 H3 ev3 r3 => ?_⟩
      refine iteF' ?_
      exact k G3 al3 σ2 H3 (ev2.trans ev3) r3
    · cases e2
end
end MI

namespace MI
open PySem PySem.Spec L2

def wipeM (sl : List (Option D)) : List Nat → List (Option D)
  | [] => sl
  | v :: vs => (wipeM sl vs).set v none
/-- the slots vs as in old, all others as in cur -/
def backM (old cur : List (Option D)) : List Nat → List (Option D)
  | [] => cur
  | v :: vs => (backM old cur vs).set v (old.getD v none)
theorem wipeM_len (sl : List (Option D)) : ∀ vs, (wipeM sl vs).length = sl.length
  | [] => rfl
  | v :: vs => by rw [wipeM, List.length_set, wipeM_len sl vs]
theorem wipeM_get {sl : List (Option D)} {i : Nat} {d : D} : ∀ {vs : List Nat}, (wipeM sl vs)[i]? = some (some d) → sl[i]? = some (some d) ∧ i ∉ vs
  | [], h => ⟨h, by simp⟩
  | v :: vs, h => by
    rw [wipeM] at h
    rcases getSet h with ⟨_, _, e⟩ | ⟨ne, h⟩
    · cases e
    · obtain ⟨h1, h2⟩ := wipeM_get h
      exact ⟨h1, by simp [ne, h2]⟩
theorem wipe_get (σ : St) {i : Nat} : ∀ {vs : List Nat}, i ∉ vs → (wipe σ vs)[i]? = σ[i]?
  | [], _ => rfl
  | v :: vs, h => by
    rw [wipe, List.getElem?_set_ne (by intro e; exact h (by simp [e]))]
    exact wipe_get σ (by intro e; exact h (by simp [e]))
theorem backM_len (old cur : List (Option D)) : ∀ vs, (backM old cur vs).length = cur.length
  | [] => rfl
  | v :: vs => by rw [backM, List.length_set, backM_len old cur vs]
theorem backM_get {old cur : List (Option D)} {i : Nat} {d : D} : ∀ {vs : List Nat}, (backM old cur vs)[i]? = some (some d) → (i ∈ vs ∧ old[i]? = some (some d)) ∨ (i ∉ vs ∧ cur[i]? = some (some d))
  | [], h => .inr ⟨by simp, h⟩
  | v :: vs, h => by
    rw [backM] at h
    rcases getSet h with ⟨rfl, _, e⟩ | ⟨ne, h⟩
    · refine .inl ⟨by simp, ?_⟩
      rw [List.getD_eq_getElem?_getD] at e
      cases q : old[i]? with
      | none => rw [q] at e; cases e
      | some x => rw [q] at e; cases e; rfl
    · rcases backM_get h with ⟨h1, h2⟩ | ⟨h1, h2⟩
      · exact .inl ⟨by simp [h1], h2⟩
      · exact .inr ⟨by simp [ne, h1], h2⟩
theorem wipe_eq {σ σ2 : St} : ∀ {vs ws : List Nat}, (∀ j ∈ ws, j ∈ vs) → Beside ws (wipe σ vs) σ2 → wipe σ2 vs = wipe σ vs := by
  intro vs ws hsub hb
  have hw : ∀ (vs : List Nat) (σ : St) (i : Nat), i ∈ vs → (wipe σ vs)[i]? = if i < σ.length then some none else none := by
    intro vs
    induction vs with
    | nil => intro σ i h; cases h
    | cons v vs ih =>
      intro σ i h
      rw [wipe]
      by_cases e : v = i
      · subst e
        by_cases hl : v < σ.length
        · rw [List.getElem?_set_self (by rw [wipe_length]; exact hl), if_pos hl]
        · rw [List.getElem?_eq_none (by rw [List.length_set, wipe_length]; omega), if_neg hl]
      · rw [List.getElem?_set_ne e]
        exact ih σ i (by rcases List.mem_cons.mp h with z | z; exact absurd z.symm e; exact z)
  apply List.ext_getElem?
  intro i
  by_cases hi : i ∈ vs
  · rw [hw vs σ2 i hi, hw vs σ i hi, hb.1, wipe_length]
  · rw [wipe_get σ2 hi, hb.2 i (fun h => hi (hsub i h))]
section
variable {K : KX} {cls : Nat → Addr} {own : Nat → Bool} {G : Gh} {al : List Addr} {m : MS} {σ : St} {H : Hp}
theorem Rst.wipe {vs : List Nat} (r : Rst K cls own G al m σ H) : Rst K cls own G al { m with sl := wipeM m.sl vs } (L2.wipe σ vs) H := by
  refine ⟨r.hst, by rw [wipe_length, wipeM_len]; exact r.len, fun i d e ho => ?_, fun i d e ho => ?_⟩
  · obtain ⟨e1, n⟩ := wipeM_get e
    rw [wipe_get σ n]
    exact r.val i d e1 ho
  · obtain ⟨e1, n⟩ := wipeM_get e
    rw [wipe_get σ n]
    exact r.own i d e1 ho
/-- behind a comprehension -/
theorem Rst.back {vs : List Nat} {G' : Gh} {al' : List Addr} {m' : MS} {H' : Hp} (r : Rst K cls own G al m σ H) (ev : Ev G al G' al') (r' : Rst K cls own G' al' { m' with sl := wipeM m'.sl vs } (L2.wipe σ vs) H') (hv : ∀ i ∈ vs, own i = false) :
    Rst K cls own G' al' { m' with sl := backM m.sl m'.sl vs } σ H' := by
  have hl : m'.sl.length = σ.length := by
    have := r'.len
    rw [wipe_length, wipeM_len] at this
    exact this.symm
  have keep : ∀ {i d}, i ∉ vs → m'.sl[i]? = some (some d) → (wipeM m'.sl vs)[i]? = some (some d) := by
    intro i d hi h
    have : ∀ ws : List Nat, i ∉ ws → (wipeM m'.sl ws)[i]? = m'.sl[i]? := by
      intro ws
      induction ws with
      | nil => intro _; rfl
      | cons w ws ih =>
        intro hw
        rw [wipeM, List.getElem?_set_ne (by intro e; exact hw (by simp [e])), ih (by intro e; exact hw (by simp [e]))]
    rw [this vs hi]; exact h
  refine ⟨r'.hst, by rw [backM_len]; exact hl.symm, fun i d e ho => ?_, fun i d e ho => ?_⟩
  · rcases backM_get e with ⟨h1, h2⟩ | ⟨h1, h2⟩
    · obtain ⟨v, q1, q2⟩ := r.val i d h2 ho
      exact ⟨v, q1, q2.ev ev⟩
    · obtain ⟨v, q1, q2⟩ := r'.val i d (keep h1 h2) ho
      rw [wipe_get σ h1] at q1
      exact ⟨v, q1, q2⟩
  · rcases backM_get e with ⟨h1, h2⟩ | ⟨h1, h2⟩
    · rw [hv i h1] at ho; cases ho
    · obtain ⟨a, o, q1, q2, q3⟩ := r'.own i d (keep h1 h2) ho
      rw [wipe_get σ h1] at q1
      exact ⟨a, o, q1, q2, q3⟩
/-- what is built stands in the frame's part -/
theorem Rst.reframe {D0 : Addr} {o o' : HO} (r : Rst K cls own G al m σ H) (h : G D0 = some (.frm, o)) : Ev G al G al ∧ Rst K cls own (putG G D0 .frm o') al m σ (upd H D0 o') ∧ Zof (putG G D0 .frm o') = Zof G := by
  have hz : Zof (putG G D0 .frm o') = Zof G := by
    funext b
    unfold Zof
    by_cases e : b = D0
    · subst e; rw [putG_same, h]
    · rw [putG_ne e]
  have ne : ∀ {b t u}, G b = some (t, u) → t ≠ .frm → b ≠ D0 := fun e q z => by subst z; rw [h] at e; cases e; exact q rfl
  refine ⟨.refl, ⟨⟨fun b t u e => ?_, r.hst.len, fun n ob e => ?_⟩, r.len, fun i d e ho => ?_, fun i d e ho => ?_⟩, hz⟩
  · by_cases hb : b = D0
    · subst hb; rw [putG_same] at e; cases e; exact upd_same
    · rw [putG_ne hb] at e; rw [upd_ne hb]; exact r.hst.gh b t u e
  · obtain ⟨b, h1, h2⟩ := r.hst.sto n ob e
    refine ⟨b, h1, ?_⟩
    unfold SO at h2 ⊢
    cases ob with
    | lst ds =>
      obtain ⟨xs, e1, r1⟩ := h2
      rw [hz]
      exact ⟨xs, by rw [putG_ne (ne e1 (by intro z; cases z))]; exact e1, r1⟩
    | ins c fs => exact h2
  · rw [hz]; exact r.val i d e ho
  · obtain ⟨a, ob, h1, h2, h3⟩ := r.own i d e ho
    rw [hz]
    exact ⟨a, ob, h1, by rw [putG_ne (ne h2 (by intro z; cases z))]; exact h2, h3⟩
def delG (G : Gh) (a : Addr) : Gh := fun b => if b = a then none else G b
theorem delG_same {a : Addr} : delG G a a = none := by unfold delG; rw [if_pos rfl]
theorem delG_ne {a b : Addr} (h : b ≠ a) : delG G a b = G b := by unfold delG; rw [if_neg h]
theorem Rst.unframe {D0 : Addr} {o : HO} (r : Rst K cls own G al m σ H) (h : G D0 = some (.frm, o)) : Rst K cls own (delG G D0) al m σ H ∧ Zof (delG G D0) = Zof G := by
  have hz : Zof (delG G D0) = Zof G := by
    funext b
    unfold Zof
    by_cases e : b = D0
    · subst e; rw [delG_same, h]
    · rw [delG_ne e]
  have ne : ∀ {b t u}, G b = some (t, u) → t ≠ .frm → b ≠ D0 := fun e q z => by subst z; rw [h] at e; cases e; exact q rfl
  refine ⟨⟨⟨fun b t u e => ?_, r.hst.len, fun n ob e => ?_⟩, r.len, fun i d e ho => ?_, fun i d e ho => ?_⟩, hz⟩
  · by_cases hb : b = D0
    · subst hb; rw [delG_same] at e; cases e
    · rw [delG_ne hb] at e; exact r.hst.gh b t u e
  · obtain ⟨b, h1, h2⟩ := r.hst.sto n ob e
    refine ⟨b, h1, ?_⟩
    unfold SO at h2 ⊢
    cases ob with
    | lst ds =>
      obtain ⟨xs, e1, r1⟩ := h2
      rw [hz]
      exact ⟨xs, by rw [delG_ne (ne e1 (by intro z; cases z))]; exact e1, r1⟩
    | ins c fs => exact h2
  · rw [hz]; exact r.val i d e ho
  · obtain ⟨a, ob, h1, h2, h3⟩ := r.own i d e ho
    rw [hz]
    exact ⟨a, ob, h1, by rw [delG_ne (ne h2 (by intro z; cases z))]; exact h2, h3⟩
end

def lcLoop (vs : List Nat) (tg : Tg) (tt : Den Bool) (te : Den D) : List D → Den (List D)
  | [] => .ret []
  | d :: ds => fun m => match tgSet tg d (wipeM m.sl vs) with
    | none => .bad
    | some sl => match tt { m with sl := sl } with
      | .ok true m2 => match te m2 with
        | .ok y m3 => match lcLoop vs tg tt te ds m3 with
          | .ok ys m4 => .ok (y :: ys) m4
          | .bad => .bad
        | .bad => .bad
      | .ok false m2 => lcLoop vs tg tt te ds m2
      | .bad => .bad
def eLc (src : Den (List D)) (vs : List Nat) (tg : Tg) (tt : Den Bool) (te : Den D) : Den D := src.bind fun ds => fun m => match lcLoop vs tg tt te ds m with
  | .ok ys m' => if fitL ys.length then .ok (.lst ys) { m' with sl := backM m.sl m'.sl vs } else .bad
  | .bad => .bad
abbrev SBs (cls : Nat → Addr) (own : Nat → Bool) (X : Cx) (es : List Expr) (f : Den Bool) : Prop := PTs X es (tDb X.kx cls own f)
theorem pts_imp {X : Cx} {e : List Expr} {t t' : TT} (h : PTs X e t) (i : ∀ σ H Q, t' σ H Q → t σ H Q) : PTs X e t' := ⟨fun pins s σ H Q I q => h.run pins s σ H Q I (i σ H Q q)⟩
theorem sbs_nil {cls : Nat → Addr} {own : Nat → Bool} {X : Cx} : SBs cls own X [] (.ret true) := pts_imp pts_nil fun σ H Q ⟨G, al, m, d, m', r, e, k⟩ => by cases e; exact k G al H .refl r
theorem sbs_one {cls : Nat → Addr} {own : Nat → Bool} {X : Cx} {c : Expr} {f : Den Bool} (h : SB cls own X c f) : SBs cls own X [c] f := pts_one h
section
variable {cls : Nat → Addr} {own : Nat → Bool} {X : Cx} {K : KX} {src : Den (List D)} {tg : Tg} {ft : Den Bool} {fe : Den D} {vs : List Nat}
theorem tLc_of (hv : ∀ i ∈ vs, own i = false) (hsub : ∀ j ∈ tgSlots tg, j ∈ vs) {σ : St} {H : Hp} {Q : VK} (q : tF K cls own (eLc src vs tg ft fe) σ H Q) :
    tLc (tI K cls own src) (tG K cls own tg) (tDb K cls own ft) (tD K cls own fe) vs σ H Q := by
  obtain ⟨G, al, m, d, m', r, e, k⟩ := q
  obtain ⟨ds, m1, e1, e⟩ := bind_ok e
  split at e
  case h_2 => cases e
  next ys m9 e9 =>
  split at e
  case isFalse => cases e
  next hfit =>
  cases e
  refine ⟨G, al, m, ds, m1, r, e1, fun G1 al1 H1 J ev1 r1 wk D0 hD => ?_⟩
  have hn : G1 D0 = none := r1.hst.nog hD
  have nG1 : ∀ {b x}, G1 b = some x → b ≠ D0 := fun e z => by subst z; rw [hn] at e; cases e
  -- the invariant: what is built so far, the rest to come
  let W : Nat → Nat → Hp → Prop := fun i n H => n = ds.length - i ∧ i ≤ ds.length ∧ ∃ G2 al2 m2 acc accD zs, Ev G1 al1 (delG G2 D0) al2 ∧ Rst K cls own G2 al2 { m2 with sl := wipeM m2.sl vs } (wipe σ vs) H ∧ G2 D0 = some (.frm, .lst acc) ∧
    DVs K (Zof G2) al2 acc accD ∧ lcLoop vs tg ft fe (ds.drop i) m2 = .ok zs m9 ∧ accD ++ zs = ys
  refine ⟨W, ⟨ds.length, rfl, Nat.zero_le _, putG G1 D0 .frm (.lst []), al1, m1, [], [], ys, ?_, ?_, putG_same, .nil, e9, rfl⟩, ?_⟩
  · have : delG (putG G1 D0 .frm (.lst [])) D0 = G1 := by
      funext b
      by_cases e : b = D0
      · subst e; rw [delG_same, hn]
      · rw [delG_ne e, putG_ne e]
    rw [this]; exact .refl
  · exact ((r1.wipe (vs := vs)).fresh hD).tag hn upd_same
  rintro i n H2 ⟨rfl, hi, G2, al2, m2, acc, accD, zs, ev2, r2, g2, c2, e2, ez⟩
  have evG : Ev G1 al1 G2 al2 := ⟨fun a o e => by have := ev2.frz a o e; rw [delG_ne (nG1 e)] at this; exact this, fun a o e => by have := ev2.frm a o e; rw [delG_ne (nG1 e)] at this; exact this, ev2.al⟩
  by_cases hlt : i < ds.length
  · refine .inr ⟨wk.goes G2 al2 _ _ H2 i evG.z r2 hlt, W (i + 1) (ds.length - (i + 1)), fun H3 q3 => ⟨_, by omega, q3⟩, fun x H3 y => ?_⟩
    have hd : ds[i]? = some ds[i] := List.getElem?_eq_getElem hlt
    obtain ⟨G3, ev3, r3, dv, keep3⟩ := wk.yields G2 al2 _ _ H2 i x H3 _ evG.z r2 hd y
    have g3 : G3 D0 = some (.frm, .lst acc) := ev3.frm _ _ g2
    rw [List.drop_eq_getElem_cons hlt, lcLoop] at e2
    dsimp only at e2
    split at e2
    · cases e2
    · next sl e3 =>
      refine ⟨G3, al2, _, _, sl, r3, dv, e3, fun σ4 r4 b4 => ⟨wipe_eq hsub b4, ?_⟩⟩
      have weq : wipe σ4 vs = wipe σ vs := by
        have := wipe_eq (σ := σ) hsub b4
        exact this
      split at e2
      · next m5 e5 =>
        refine ⟨G3, al2, _, true, m5, r4, e5, fun G5 al5 H5 ev5 r5 => iteT' ?_⟩
        split at e2
        · next y5 m6 e6 =>
          split at e2
          · next ys6 m7 e7 =>
            cases e2
            refine ⟨G5, al5, m5, y5, m6, r5, e6, fun G6 al6 v6 H6 ev6 r6 dv6 => ?_⟩
            have g6 : G6 D0 = some (.frm, .lst acc) := ev6.frm _ _ (ev5.frm _ _ g3)
            have evs : Ev G2 al2 G6 al6 := ev3.trans (ev5.trans ev6)
            have c6 : DVs K (Zof G6) al6 acc accD := c2.ev evs
            have hlen : acc.length < sizeLine := by
              have h1 := c2.length
              have h2 : ys.length ≤ sizeLine := fitL_le hfit
              have h3 := congrArg List.length ez
              simp only [List.length_append, List.length_cons] at h3
              omega
            obtain ⟨_, r7, hz7⟩ := r6.reframe (o' := .lst (acc ++ [v6])) g6
            refine ⟨acc, r6.hst.gh _ _ _ g6, hlen, rfl, hlt, putG G6 D0 .frm (.lst (acc ++ [v6])), al6, m6, acc ++ [v6], accD ++ [y5], ys6, ?_, ?_, putG_same, ?_, e7, by rw [← ez]; simp⟩
            · have : delG (putG G6 D0 .frm (.lst (acc ++ [v6]))) D0 = delG G6 D0 := by
                funext b
                by_cases e : b = D0
                · subst e; rw [delG_same, delG_same]
                · rw [delG_ne e, putG_ne e, delG_ne e]
              rw [this]
              refine ⟨fun a o e => ?_, fun a o e => ?_, evG.al.trans evs.al⟩
              · rw [delG_ne (nG1 e)]; exact evs.frz _ _ (evG.frz _ _ e)
              · rw [delG_ne (nG1 e)]; exact evs.frm _ _ (evG.frm _ _ e)
            · have := r7.wipe (vs := vs)
              rw [weq] at this
              exact this
            · rw [hz7]; exact c6.append (.cons dv6 .nil)
          · cases e2
        · cases e2
      · next m5 e5 =>
        refine ⟨G3, al2, _, false, m5, r4, e5, fun G5 al5 H5 ev5 r5 => iteF' ?_⟩
        have evs : Ev G2 al2 G5 al5 := ev3.trans ev5
        refine ⟨rfl, hlt, G5, al5, m5, acc, accD, zs, ?_, ?_, ev5.frm _ _ g3, c2.ev evs, e2, ez⟩
        · refine ⟨fun a o e => ?_, fun a o e => ?_, evG.al.trans evs.al⟩
          · rw [delG_ne (nG1 e)]; exact evs.frz _ _ (evG.frz _ _ e)
          · rw [delG_ne (nG1 e)]; exact evs.frm _ _ (evG.frm _ _ e)
        · have := r5.wipe (vs := vs)
          rw [weq] at this
          exact this
      · cases e2
  · have en : i = ds.length := by omega
    subst en
    rw [List.drop_length] at e2
    cases e2
    have ez : accD = ys := by rw [← ez]; simp
    subst ez
    refine .inl ⟨wk.stops G2 al2 _ _ H2 evG.z r2, ?_⟩
    obtain ⟨r3, hz3⟩ := r2.unframe g2
    have rb := r1.back ev2 r3 hv
    exact k (delG G2 D0) al2 D0 (.lst acc) H2 (ev1.trans ev2) rb (r2.hst.gh _ _ _ g2) delG_same (by rw [hz3]; exact c2)
end
section
variable {cls : Nat → Addr} {own : Nat → Bool} {X : Cx} {elt te iter : Expr} {ifs : List Expr} {scope : Scope} {ow : List (Str × Nat)} {pos : Pos} {src : Den (List D)} {tg : Tg} {ft : Den Bool} {fe : Den D}
theorem sf_lc (hc : X.calm = true) (hN : X.N.Nodup) (hi : SI cls own X te iter src) (ok : BlkOk X.N X.env.scope scope ow)
    (hg : ∀ (s : Shared) (H : Hp) (C : Addr) (cl : List (Str × Addr)) (fp : List Addr), SG cls own (X.blk s H scope (compEnvC scope cl C X.env) fp) te tg)
    (ht : ∀ (s : Shared) (H : Hp) (C : Addr) (cl : List (Str × Addr)) (fp : List Addr), SBs cls own (X.blk s H scope (compEnvC scope cl C X.env) fp) ifs ft)
    (he : ∀ (s : Shared) (H : Hp) (C : Addr) (cl : List (Str × Addr)) (fp : List Addr), SE cls own (X.blk s H scope (compEnvC scope cl C X.env) fp) elt fe)
    (hv : ∀ i ∈ ow.map (·.2), own i = false) (hsub : ∀ j ∈ tgSlots tg, j ∈ ow.map (·.2)) (hs : ∀ x, foldedSetIterable iter X.env x = pure x := by intro _; rfl) :
    SF cls own X (.ListComp elt [⟨te, iter, ifs, 0⟩] scope pos) (eLc src (ow.map (·.2)) tg ft fe) :=
  pe_imp (pe_lc (own := ow) hc hN hi ok hg ht he hs) fun _ _ _ q => tLc_of hv hsub q
end
end MI

namespace MI
open PySem PySem.Spec L2
section
variable {cls : Nat → Addr} {own : Nat → Bool} {X : Cx} {elt te iter : Expr} {ifs : List Expr} {scope : Scope} {ow : List (Str × Nat)} {pos py spos : Pos} {src : Den (List D)} {tg : Tg} {ft : Den Bool} {fe : Den D} {i : Nat} {y : Str}
theorem ss_setLc (ho : own i = false) (hc : X.calm = true) (hN : X.N.Nodup) (hy : X.N[i]? = some y) (hyl : X.env.scope.names.lookup y = some .local)
    (hsw : swapsWith (.ListComp elt [⟨te, iter, ifs, 0⟩] scope pos) (some (.Name y py)) spos.line X.env = pure true) (hi : SI cls own X te iter src) (ok : BlkOk X.N X.env.scope scope ow)
    (hg : ∀ (s : Shared) (H : Hp) (C : Addr) (cl : List (Str × Addr)) (fp : List Addr), SG cls own (X.blk s H scope (compEnvC scope cl C X.env) fp) te tg)
    (ht : ∀ (s : Shared) (H : Hp) (C : Addr) (cl : List (Str × Addr)) (fp : List Addr), SBs cls own (X.blk s H scope (compEnvC scope cl C X.env) fp) ifs ft)
    (he : ∀ (s : Shared) (H : Hp) (C : Addr) (cl : List (Str × Addr)) (fp : List Addr), SE cls own (X.blk s H scope (compEnvC scope cl C X.env) fp) elt fe)
    (hv : ∀ i ∈ ow.map (·.2), own i = false) (hsub : ∀ j ∈ tgSlots tg, j ∈ ow.map (·.2)) (hs : ∀ x, foldedSetIterable iter X.env x = pure x := by intro _; rfl) :
    SS cls own X (.Assign [.Name y py] (.ListComp elt [⟨te, iter, ifs, 0⟩] scope pos) spos) (sSet i (eLc src (ow.map (·.2)) tg ft fe)) := by
  refine ps_imp (ps_setLc (own := ow) (g := tG X.kx cls own tg) (tt := tDb X.kx cls own ft) (te := tD X.kx cls own fe) hc hN hy hyl hsw hi ok hg ht he hs) fun E σ H q => ?_
  obtain ⟨G, al, m, fl, m', r, e, k⟩ := q
  obtain ⟨d, m1, e1, e⟩ := bind_ok e
  cases e
  refine tLc_of hv hsub ⟨G, al, m, d, m1, r, e1, fun G1 al1 p o H1 ev1 r1 hp hn c => ?_⟩
  have ev2 : Ev G1 al1 (putG G1 p .frz o) al1 := ev_put hn
  exact k _ al1 _ H1 (ev1.trans ev2) ((r1.tag hn hp).set (CO.frz (zof_of putG_same) (c.mono ev2.same ev2.al)) ho)
theorem ss_ownLc (ho : own i = true) (hc : X.calm = true) (hN : X.N.Nodup) (hy : X.N[i]? = some y) (hyl : X.env.scope.names.lookup y = some .local)
    (hsw : swapsWith (.ListComp elt [⟨te, iter, ifs, 0⟩] scope pos) (some (.Name y py)) spos.line X.env = pure true) (hi : SI cls own X te iter src) (ok : BlkOk X.N X.env.scope scope ow)
    (hg : ∀ (s : Shared) (H : Hp) (C : Addr) (cl : List (Str × Addr)) (fp : List Addr), SG cls own (X.blk s H scope (compEnvC scope cl C X.env) fp) te tg)
    (ht : ∀ (s : Shared) (H : Hp) (C : Addr) (cl : List (Str × Addr)) (fp : List Addr), SBs cls own (X.blk s H scope (compEnvC scope cl C X.env) fp) ifs ft)
    (he : ∀ (s : Shared) (H : Hp) (C : Addr) (cl : List (Str × Addr)) (fp : List Addr), SE cls own (X.blk s H scope (compEnvC scope cl C X.env) fp) elt fe)
    (hv : ∀ i ∈ ow.map (·.2), own i = false) (hsub : ∀ j ∈ tgSlots tg, j ∈ ow.map (·.2)) (hs : ∀ x, foldedSetIterable iter X.env x = pure x := by intro _; rfl) :
    SS cls own X (.Assign [.Name y py] (.ListComp elt [⟨te, iter, ifs, 0⟩] scope pos) spos) (sSet i (eLc src (ow.map (·.2)) tg ft fe)) := by
  refine ps_imp (ps_setLc (own := ow) (g := tG X.kx cls own tg) (tt := tDb X.kx cls own ft) (te := tD X.kx cls own fe) hc hN hy hyl hsw hi ok hg ht he hs) fun E σ H q => ?_
  obtain ⟨G, al, m, fl, m', r, e, k⟩ := q
  obtain ⟨d, m1, e1, e⟩ := bind_ok e
  cases e
  exact tLc_of hv hsub ⟨G, al, m, d, m1, r, e1, fun G1 al1 p o H1 ev1 r1 hp hn c => k _ al1 _ H1 (ev1.trans (ev_put hn)) (r1.setOwn hp hn c ho)⟩
end

/-! ### defs -/
abbrev Fn := List D → Sto → Option (D × Sto)
def runFn (n : Nat) (body : Den Fl) : Fn := fun ds st => match body ⟨ds.map some ++ List.replicate (n - ds.length) none, st⟩ with
  | .ok (.rt d) m => some (d, m.st)
  | .ok .nx m => some (.non, m.st)
  | _ => none
/-- a def's promise: it does what fn does -/
def SpD (K : KX) (cls : Nat → Addr) (np : Nat) (fn : Fn) : Sp := fun vs H Q _ => vs.length = np ∧ ∃ G al ds st d st', Hst K cls G al st H ∧ DVs K (Zof G) al vs ds ∧ fn ds st = some (d, st') ∧
  ∀ G' al' v H', Ev G al G' al' → Hst K cls G' al' st' H' → DV K (Zof G') al' v d → Q v H'
theorem start_get {ds : List D} {n i : Nat} {d : D} (h : (ds.map some ++ List.replicate n (none : Option D))[i]? = some (some d)) : ds[i]? = some d := by
  by_cases hi : i < ds.length
  · rw [List.getElem?_append_left (by simpa using hi), List.getElem?_map] at h
    cases q : ds[i]? with
    | none => rw [q] at h; cases h
    | some x => rw [q] at h; cases h; rfl
  · rw [List.getElem?_append_right (by simpa using hi)] at h
    obtain ⟨_, e⟩ := List.getElem?_eq_some_iff.mp h
    rw [List.getElem_replicate] at e
    cases e
section
variable {cls : Nat → Addr} {own : Nat → Bool} {P : Program} {w : World} {K : PySem.W.Frag} {mg : Str → Option Value} {base : Heap} {x qual : Str} {params : Arguments} {body : List Stmt} {scope : Scope} {dvs : List V} {kws : List (Str × V)} {f : Addr} {fd : FuncData}
/-- a def keeps what its body's denotation says -/
theorem fn_ok {N ps : List Str} {k : Nat} {den : Den Fl} (F : FunD K x qual params body scope dvs kws f fd) (S : FnScope N ps scope) (hop : ∀ i, i < ps.length → own i = false)
    (hb : ∀ (cdv : Value) (A : Around) (outer : List Env) (s : Shared) (H : Hp) (E : XK), Room k (A.deeper (PyProof.Rows.envOfC qual scope s.heap.objs.size f cdv)) → SSs cls own (cxOf CX0 P w K mg base N qual scope f cdv A outer s H E).nox body den) :
    FnOk P w K mg base CX0 (k + 1) f fd ps (SpD ⟨K, P, w⟩ cls ps.length (runFn N.length den)) := by
  refine F.ok S (fun vs H Q E h => h.1) fun cdv A outer s H vs Q E hr h => ⟨_, PSs.nox (hb cdv A outer s H E hr), ?_⟩
  obtain ⟨hl, G, al, ds, st, d, st', hst, dv, e, k⟩ := h
  unfold runFn at e
  split at e
  case h_3 => cases e
  case h_1 _ d0 m0 e0 =>
    cases e
    refine ⟨G, al, ⟨ds.map some ++ List.replicate (N.length - ds.length) none, st⟩, .rt _, m0, ?_, e0, fun G1 al1 σ1 H1 ev1 r1 v dv1 => k G1 al1 v H1 ev1 r1.hst dv1⟩
    refine ⟨hst, by simp [L2.start, dv.length], fun i d q ho => ?_, fun i d q ho => ?_⟩
    · have q' := start_get q
      obtain ⟨v, h1, h2⟩ := dv.get q'
      refine ⟨v, ?_, h2⟩
      unfold L2.start
      rw [List.getElem?_append_left (by simpa using (List.getElem?_eq_some_iff.mp h1).1), List.getElem?_map, h1]
      rfl
    · have q' := start_get q
      have := (List.getElem?_eq_some_iff.mp q').1
      rw [hop i (by rw [← hl, dv.length]; exact this)] at ho
      cases ho
  case h_2 _ m0 e0 =>
    cases e
    refine ⟨G, al, ⟨ds.map some ++ List.replicate (N.length - ds.length) none, st⟩, .nx, m0, ?_, e0, fun G1 al1 σ1 H1 ev1 r1 => k G1 al1 .non H1 ev1 r1.hst .non⟩
    refine ⟨hst, by simp [L2.start, dv.length], fun i d q ho => ?_, fun i d q ho => ?_⟩
    · have q' := start_get q
      obtain ⟨v, h1, h2⟩ := dv.get q'
      refine ⟨v, ?_, h2⟩
      unfold L2.start
      rw [List.getElem?_append_left (by simpa using (List.getElem?_eq_some_iff.mp h1).1), List.getElem?_map, h1]
      rfl
    · have q' := start_get q
      have := (List.getElem?_eq_some_iff.mp q').1
      rw [hop i (by rw [← hl, dv.length]; exact this)] at ho
      cases ho
end

/-! ### calls -/
/-- the slots' containers stand in the frame while another def runs -/
def callG (G : Gh) : Gh := fun a => match G a with
  | some (.slot _, o) => some (.frm, o)
  | x => x
def aftG (G G' : Gh) : Gh := fun a => match G a with
  | some (.slot i, o) => some (.slot i, o)
  | _ => G' a
theorem callG_eq {G : Gh} {a : Addr} {t : Tag} {o : HO} (h : G a = some (t, o)) (n : ∀ i, t ≠ .slot i) : callG G a = some (t, o) := by
  unfold callG
  rw [h]
  cases t with
  | slot i => exact absurd rfl (n i)
  | _ => rfl
theorem callG_slot {G : Gh} {a : Addr} {i : Nat} {o : HO} (h : G a = some (.slot i, o)) : callG G a = some (.frm, o) := by unfold callG; rw [h]
theorem zof_callG (G : Gh) : Zof (callG G) = Zof G := by
  funext a
  unfold Zof callG
  cases e : G a with
  | none => rfl
  | some x =>
    obtain ⟨t, o⟩ := x
    cases t <;> rfl
section
variable {K : KX} {cls : Nat → Addr} {own : Nat → Bool} {G G' : Gh} {al al' : List Addr} {m : MS} {σ : St} {H H' : Hp} {st : Sto}
theorem Hst.call (r : Hst K cls G al st H) : Hst K cls (callG G) al st H := by
  refine ⟨fun a t o e => ?_, r.len, fun n ob e => ?_⟩
  · unfold callG at e
    split at e
    · next i o' e' => cases e; exact r.gh a _ _ e'
    · next => exact r.gh a t o e
  · obtain ⟨a, h1, h2⟩ := r.sto n ob e
    refine ⟨a, h1, ?_⟩
    unfold SO at h2 ⊢
    cases ob with
    | lst ds =>
      obtain ⟨xs, e1, r1⟩ := h2
      exact ⟨xs, callG_eq e1 (by intro i z; cases z), by rw [zof_callG]; exact r1⟩
    | ins c fs => exact h2
theorem zof_aft (ev : Ev (callG G) al G' al') : Zof (aftG G G') = Zof G' := by
  funext a
  unfold Zof aftG
  cases e : G a with
  | none => rfl
  | some x =>
    obtain ⟨t, o⟩ := x
    cases t with
    | slot i =>
      have := ev.frm a o (callG_slot e)
      rw [this]
    | _ => rfl
theorem ev_aft (ev : Ev (callG G) al G' al') : Ev G al (aftG G G') al' := by
  refine ⟨fun a o e => ?_, fun a o e => ?_, ev.al⟩
  · have := ev.frz a o (callG_eq e (by intro i z; cases z))
    unfold aftG; rw [e]; exact this
  · have := ev.frm a o (callG_eq e (by intro i z; cases z))
    unfold aftG; rw [e]; exact this
theorem Rst.after (r : Rst K cls own G al m σ H) (ev : Ev (callG G) al G' al') (h : Hst K cls G' al' st H') : Rst K cls own (aftG G G') al' { m with st := st } σ H' := by
  have e0 := ev_aft ev
  refine ⟨⟨fun a t o e => ?_, h.len, fun n ob e => ?_⟩, r.len, fun i d e ho => ?_, fun i d e ho => ?_⟩
  · unfold aftG at e
    split at e
    · next e' =>
      cases e
      exact h.gh a _ _ (ev.frm a o (callG_slot e'))
    · exact h.gh a t o e
  · obtain ⟨a, h1, h2⟩ := h.sto n ob e
    refine ⟨a, h1, ?_⟩
    unfold SO at h2 ⊢
    cases ob with
    | lst ds =>
      obtain ⟨xs, e1, r1⟩ := h2
      refine ⟨xs, ?_, by rw [zof_aft ev]; exact r1⟩
      unfold aftG
      split
      · next i o' e' =>
        have := ev.frm a o' (callG_slot e')
        rw [e1] at this; cases this
      · exact e1
    | ins c fs => exact h2
  · obtain ⟨v, h1, h2⟩ := r.val i d e ho
    exact ⟨v, h1, h2.ev e0⟩
  · obtain ⟨a, o, h1, h2, h3⟩ := r.own i d e ho
    exact ⟨a, o, h1, by unfold aftG; rw [h2], h3.mono e0.same e0.al⟩
end
/-- f(..): the values, then the defaults -/
def eCall (fn : Fn) (dd : List D) (fs : Den (List D)) : Den D := fs.bind fun ds => fun m => match fn (ds ++ dd) m.st with
  | some (d, st) => .ok d { m with st := st }
  | none => .bad
section
variable {cls : Nat → Addr} {own : Nat → Bool} {X : Cx} {k : Nat} {f : Addr} {fd : FuncData} {ps : List Str} {fn : Fn} {dvs : List V} {dds : List D} {ds : List Value} {x : Str} {p pos : Pos} {e : Expr} {es : List Expr} {fs : Den (List Hd)}
theorem call_core {σ : St} {H : Hp} {Q : VK} {t : TA} {np : Nat} {E : XK} {G : Gh} {al : List Addr} {m : MS} {d : D} {as : List D} {st' : Sto} {vs : List V} (hnp : vs.length = np) (r : Rst X.kx cls own G al m σ H) (dv : DVs X.kx (Zof G) al vs as) (e2 : fn as m.st = some (d, st'))
    (k : ∀ G' al' v H', Ev G al G' al' → Rst X.kx cls own G' al' { m with st := st' } σ H' → DV X.kx (Zof G') al' v d → Q v H') : SpD X.kx cls np fn vs H Q E :=
  ⟨hnp, callG G, al, as, m.st, d, st', r.hst.call, by rw [zof_callG]; exact dv, e2, fun G' al' v H' ev hst dvv => k (aftG G G') al' v H' (ev_aft ev) (r.after ev hst) (by rw [zof_aft ev]; exact dvv)⟩
theorem se_call {np : Nat} (F : FnOk X.prog X.w X.K X.mg X.base CX0 k f fd ps (SpD X.kx cls np fn)) (hr : Room k X.A) (hg : Gl X x) (hm : X.mg x = some (.ref f)) (hk : PySem.W.keepIn X.K (.ref f) = true) (hb : Binds X.K fd ps ds) (hd : Vals dvs ds) (hdd : DVs X.kx (fun _ => none) [] dvs dds)
    (ha : SHs cls own X (e :: es) fs) (hnp : (e :: es).length + dvs.length = np) (hdb : (x == ("__debug__" : Str)) = false := by decide) (he : starEach (e :: es) X.env = (false, eval e X.env) :: starEach es X.env := by rfl) (hpl : (backTo pos (starEach es X.env)).any (·.1) = false := by rfl)
    (hlen : ∀ m hs m', fs m = .ok hs m' → hs.length = (e :: es).length) :
    SE cls own X (.Call (.Name x p) (e :: es) [] pos) (eCall fn dds (aVals fs)) := by
  refine pe_imp (pe_call F hr hg hm hk hb hd (pass0 (X := X)) ha hdb he hpl) fun σ H Q q => ?_
  obtain ⟨G, al, m, d, m', r, e, k⟩ := q
  obtain ⟨as, m1, e1, e⟩ := bind_ok e
  obtain ⟨hs, e1, l⟩ := aVals_ok e1
  split at e
  · next d0 st0 e2 =>
    cases e
    refine ⟨G, al, m, hs, m1, r, e1, fun G1 al1 vs H1 ev1 r1 hv => ?_⟩
    have dv := looksV_dv hv l
    have hdd' : DVs X.kx (Zof G1) al1 dvs dds := hdd.mono (fun a o (z : (none : Option HO) = some o) => nomatch z) (List.nil_prefix)
    have hvl : ∀ {vs : List V} {hs : List Hd}, HVs X.kx own G1 al1 σ vs hs → vs.length = hs.length := by
      intro vs hs h
      induction h with
      | nil => rfl
      | cons _ _ ih => rw [List.length_cons, List.length_cons, ih]
    refine call_core (t := tNil) (E := L2.E0) (by rw [List.length_append, hvl hv, hlen _ _ _ e1]; exact hnp) r1 (dv.append hdd') e2 fun G' al' v H' ev r' dvv => k G' al' v H' (ev1.trans ev) r' dvv
  · cases e
theorem se_call0 {np : Nat} (F : FnOk X.prog X.w X.K X.mg X.base CX0 k f fd ps (SpD X.kx cls np fn)) (hr : Room k X.A) (hg : Gl X x) (hm : X.mg x = some (.ref f)) (hk : PySem.W.keepIn X.K (.ref f) = true) (hb : Binds X.K fd ps ds) (hd : Vals dvs ds) (hdd : DVs X.kx (fun _ => none) [] dvs dds)
    (hnp : dvs.length = np) (hdb : (x == ("__debug__" : Str)) = false := by decide) : SE cls own X (.Call (.Name x p) [] [] pos) (eCall fn dds (.ret [])) := by
  refine pe_imp (pe_call0 F hr hg hm hk hb hd (pass0 (X := X)) hdb) fun σ H Q q => ?_
  obtain ⟨G, al, m, d, m', r, e, k⟩ := q
  obtain ⟨as, m1, e1, e⟩ := bind_ok e
  cases e1
  split at e
  · next d0 st0 e2 =>
    cases e
    have hdd' : DVs X.kx (Zof G) al dvs dds := hdd.mono (fun a o (z : (none : Option HO) = some o) => nomatch z) (List.nil_prefix)
    exact call_core (t := tNil) (E := L2.E0) hnp r hdd' e2 fun G' al' v H' ev r' dvv => k G' al' v H' ev r' dvv
  · cases e
end
end MI

namespace MI
open PySem PySem.Spec L2

mutual
inductive KAt (K : PySem.W.Frag) (H : Hp) : V → NestedKey → Prop
  | non : KAt K H .non .none
  | int (i : Int) : KAt K H (.int i) (.num i)
  | str (x : Str) : KAt K H (.str x) (.text x)
  | tup {a : Addr} {xs : List V} {ks : List NestedKey} : SqT K H a xs → KAtAll K H xs ks → KAt K H (.ref a) (.tup ks)
inductive KAtAll (K : PySem.W.Frag) (H : Hp) : List V → List NestedKey → Prop
  | nil : KAtAll K H [] []
  | cons {v : V} {vs : List V} {k : NestedKey} {ks : List NestedKey} : KAt K H v k → KAtAll K H vs ks → KAtAll K H (v :: vs) (k :: ks)
end
theorem toNKs_cons {d : D} {ds : List D} {ps : List NestedKey} (e : toNKs (d :: ds) = some ps) : ∃ p ps', toNK d = some p ∧ toNKs ds = some ps' ∧ ps = p :: ps' := by
  rw [toNKs] at e
  split at e
  · next p ps' h1 h2 => cases e; exact ⟨p, ps', h1, h2, rfl⟩
  · cases e
section
variable {K : KX} {H Z : Hp} {al : List Addr}
mutual
theorem DV.kat (s : Same Z H) : ∀ {v : V} {d : D} {k : NestedKey}, DV K Z al v d → toNK d = some k → KAt K.K H v k
  | _, _, _, .non, e => by cases e; exact .non
  | _, _, _, .int i, e => by cases e; exact .int i
  | _, _, _, .str i, e => by cases e; exact .str i
  | _, _, _, .tup (ds := ds) h r, e => by
    cases q : toNKs ds with
    | none => rw [toNK, q] at e; cases e
    | some ps => rw [toNK, q] at e; cases e; exact .tup (Same.tupS s h) (DVs.kat s r q)
  | _, _, _, .bl _, e => by cases e
  | _, _, _, .lst _ _, e => by cases e
  | _, _, _, .scr _, e => by cases e
  | _, _, _, .dicK _ _ _, e => by cases e
  | _, _, _, .ditN _ _ _ _ _ _, e => by cases e
  | _, _, _, .obj _, e => by cases e
theorem DVs.kat (s : Same Z H) : ∀ {v : List V} {d : List D} {k : List NestedKey}, DVs K Z al v d → toNKs d = some k → KAtAll K.K H v k
  | _, _, _, .nil, e => by cases e; exact .nil
  | _, _, _, .cons h r, e => by
    obtain ⟨p, ps, h1, h2, rfl⟩ := toNKs_cons e
    exact .cons (DV.kat s h h1) (DVs.kat s r h2)
end
theorem CR.kat (s : Same Z H) {v : V} {d : D} {k : NestedKey} (h : CR K H Z al v d) (e : toNK d = some k) : KAt K.K H v k := by
  cases d with
  | lst ds => cases e
  | dic ds => cases e
  | dit ds => cases e
  | _ => exact DV.kat s h e
end
section
variable {X : Cx} {pins : List (Addr × Obj)} {σ : St} {H : Hp} {s : Shared}
mutual
theorem KAt.is (I : Inv X pins σ H s) : ∀ (k : NestedKey) (v : V) (u : Value), KAt X.K H v k → RelV v u → NestedIs s.heap k u
  | .none, _, _, h, r => by cases h; cases r; exact .none
  | .num i, _, _, h, r => by cases h; obtain ⟨t, rfl⟩ := r; exact .int _ _
  | .text i, _, _, h, r => by cases h; obtain ⟨t, rfl⟩ := r; exact .text _ _
  | .tup ks, _, _, h, r => by
    cases h with
    | tup h1 h2 =>
      cases r
      obtain ⟨its, rv, ⟨o, e1, e2, n, e3⟩, _⟩ := I.tuple h1
      exact .tup e1 e2 e3 (by simpa using KAtAll.is I ks _ its h2 rv)
theorem KAtAll.is (I : Inv X pins σ H s) : ∀ (ks : List NestedKey) (vs : List V) (us : List Value), KAtAll X.K H vs ks → Vals vs us → NestedAll s.heap ks us
  | [], _, _, h, r => by cases h; cases r; exact .nil
  | k :: ks, _, _, h, r => by
    cases h with
    | cons h1 h2 => cases r with
      | cons r1 r2 => exact .cons (KAt.is I k _ _ h1 r1) (KAtAll.is I ks _ _ h2 r2)
end
/-- at a stands such a dict -/
structure DNat (K : KX) (H : Hp) (a : Addr) (o : Obj) (xs : XS) : Prop where
  at_ : H a = some (hoN a o)
  raw : RawN K a o xs
  keys : KAtAll K.K H (xs.map fun x => V.ref x.2.1) (xs.map (·.1))
theorem KAtAll.mem : ∀ {xs : XS}, KAtAll X.K H (xs.map fun x => V.ref x.2.1) (xs.map (·.1)) → ∀ x ∈ xs, KAt X.K H (.ref x.2.1) x.1
  | [], _, x, hx => by cases hx
  | y :: ys, h, x, hx => by
    cases h with
    | cons h1 h2 =>
      rcases List.mem_cons.mp hx with rfl | hx
      · exact h1
      · exact KAtAll.mem h2 x hx
theorem DNat.dict {a : Addr} {o : Obj} {xs : XS} (d : DNat X.kx H a o xs) (I : Inv X pins σ H s) : s.heap.DictOfH (nestedKind X.prog X.w) a xs := by
  obtain ⟨es, ep, e1, e2⟩ := d.raw.ent
  have h0 : s.heap.get? a = some o := (I.hok a _ d.at_).1
  refine ⟨o, es, ep, h0, d.raw.exact', e1, e2, fun x hx => ⟨KAt.is I x.1 _ _ (KAtAll.mem d.keys x hx) rfl, d.raw.dp x hx⟩, d.raw.nd⟩
theorem DNat.ty {a : Addr} {o : Obj} {xs : XS} (d : DNat X.kx H a o xs) (I : Inv X pins σ H s) : s.TypeIs (.ref a) "dict" := (d.dict I).typeIs
theorem room8 (hu : X.A.units + 65 < cLine) : (nestedKind X.prog X.w).room X.A.in1 := by
  show X.A.in1.units + 8 < cLine
  have : X.A.in1.units ≤ X.A.units + 1 := by
    first
      | exact Nat.le_refl _
      | simp [Around.in1]
  omega
def rInN (K : KX) (neg : Bool) : R2 := fun x y H Q => ∃ (a b : Addr) (o : Obj) (xs : XS) (nk : NestedKey), x = .ref b ∧ y = .ref a ∧ DNat K H a o xs ∧ KAt K.K H (.ref b) nk ∧ nk.depth ≤ 8 ∧ Q (.bl (if neg then !(atKey xs nk).isSome else (atKey xs nk).isSome)) H
theorem op_inN (hu : X.A.units + 65 < cLine) : OpR X (compareOp .In) (rInN X.kx false) := by
  intro pins s σ H x y v u Q I rx ry h
  obtain ⟨a, b, o, xs, nk, rfl, rfl, d, kb, hd, q⟩ := h
  cases rx
  cases ry
  exact wpAny_in_heap (room8 hu) ⟨KAt.is I nk _ _ kb rfl, hd⟩ d.raw.ns (d.dict I) ⟨.bl _, H, I.tok _, rfl, q⟩
theorem op_notInN (hu : X.A.units + 65 < cLine) : OpR X (compareOp .NotIn) (rInN X.kx true) := by
  intro pins s σ H x y v u Q I rx ry h
  obtain ⟨a, b, o, xs, nk, rfl, rfl, d, kb, hd, q⟩ := h
  cases rx
  cases ry
  refine notIn_keyed (room8 hu) ⟨KAt.is I nk _ _ kb rfl, hd⟩ d.raw.ns ⟨xs, d.dict I, rfl⟩ ⟨.bl _, H, I.tok _, ?_, q⟩
  rw [valueAt_pairsH, Option.isSome_map]
  rfl
/-- d[k] -/
def rIxN (K : KX) : R2 := fun x y H Q => ∃ (a b : Addr) (o : Obj) (xs : XS) (nk : NestedKey) (p : Addr × Value) (v : V), x = .ref a ∧ y = .ref b ∧ DNat K H a o xs ∧ KAt K.K H (.ref b) nk ∧ nk.depth ≤ 8 ∧ atKey xs nk = some p ∧ RelV v p.2 ∧ Q v H
theorem ix_N (hu : X.A.units + 65 < cLine) : IxR X (rIxN X.kx) := by
  intro value slice pins s σ H x y v u Q I rx ry h hs
  obtain ⟨a, b, o, xs, nk, p, z, rfl, rfl, d, kb, hd, hp, rz, q⟩ := h
  cases rx
  cases ry
  exact PyProof.Rows.tail_any (d.ty I) PySem.F.slot_dict_getitem.lookup (wpAny_getItem_heap (room8 hu) ⟨KAt.is I nk _ _ kb rfl, hd⟩ (d.dict I) hp ⟨z, H, I.tok _, rz, q⟩) hs
end

/-! ### by data -/
def kEqN (a b : D) : Bool := match toNK a, toNK b with
  | some x, some y => NestedKey.beq x y
  | _, _ => false
def isNK (d : D) : Bool := match d with
  | .tup _ => (toNK d).any fun k => decide (k.depth ≤ 8)
  | _ => false
def dgetN : List (D × D) → D → Option D
  | [], _ => none
  | (k, v) :: r, x => if kEqN k x then some v else dgetN r x
theorem isNK_ok {d : D} (h : isNK d = true) : ∃ ds k, d = .tup ds ∧ toNK d = some k ∧ k.depth ≤ 8 := by
  unfold isNK at h
  split at h
  · next ds =>
    cases q : toNK (.tup ds) with
    | none => rw [q] at h; cases h
    | some k => rw [q] at h; exact ⟨ds, k, rfl, rfl, of_decide_eq_true h⟩
  · cases h
theorem dgetN_at {K : KX} {Z : Hp} {al : List Addr} {x : D} {nk : NestedKey} (hx : toNK x = some nk) : ∀ {xs : XS} {ds : List (D × D)} {vs : List V}, toNKs (ds.map Prod.fst) = some (xs.map (·.1)) → Vals vs (xs.map (·.2.2)) → DVs K Z al vs (ds.map Prod.snd) →
    (∀ d, dgetN ds x = some d → ∃ p v, atKey xs nk = some p ∧ RelV v p.2 ∧ DV K Z al v d) ∧ (dgetN ds x = none → atKey xs nk = none)
  | [], [], _, _, _, _ => ⟨fun d h => (nomatch (show (none : Option D) = some d from h)), fun _ => rfl⟩
  | [], (_, _) :: _, _, e, _, _ => by
    obtain ⟨p, ps, _, _, e⟩ := toNKs_cons e
    cases e
  | _ :: _, [], _, e, _, _ => by cases e
  | (k0, b, u) :: xs, (dk, dv) :: ds, vs, e, rv, r => by
    obtain ⟨p, ps, h1, h2, e⟩ := toNKs_cons e
    have e : k0 :: xs.map (·.1) = p :: ps := e
    injection e with e1 e2
    rw [← e1] at h1
    rw [← e2] at h2
    have h1 : toNK dk = some k0 := h1
    cases rv with
    | cons rv1 rv2 =>
      cases r with
      | cons r1 r2 =>
        obtain ⟨i1, i2⟩ := dgetN_at hx h2 rv2 r2
        unfold dgetN
        have hk : kEqN dk x = decide (k0 = nk) := by unfold kEqN; rw [h1, hx, NestedKey.decide_eq]
        rw [hk]
        by_cases h : k0 = nk
        · have ha : atKey ((k0, b, u) :: xs) nk = some (b, u) := by unfold atKey; rw [List.find?_cons, decide_eq_true h]; rfl
          simp only [decide_eq_true h, if_true]
          exact ⟨fun d' q => by cases q; exact ⟨(b, u), _, ha, rv1, r1⟩, fun q => by cases q⟩
        · simp only [decide_eq_false h, Bool.false_eq_true, if_false]
          have : atKey ((k0, b, u) :: xs) nk = atKey xs nk := by unfold atKey; rw [List.find?_cons, decide_eq_false h]
          rw [this]
          exact ⟨i1, i2⟩
section
variable {cls : Nat → Addr} {own : Nat → Bool} {K : KX}
theorem dnat_of {G : Gh} {al : List Addr} {m : MS} {σ : St} {H : Hp} {a : Addr} {o : Obj} {xs : XS} {ds : List (D × D)} (r : Rst K cls own G al m σ H) (h1 : H a = some (hoN a o)) (h2 : RawN K a o xs) (h3 : DVs K (Zof G) al (xs.map fun x => V.ref x.2.1) (ds.map Prod.fst)) (h4 : toNKs (ds.map Prod.fst) = some (xs.map (·.1))) :
    DNat K H a o xs := ⟨h1, h2, h3.kat r.zh h4⟩
theorem CR.tref {H Z : Hp} {al : List Addr} {v : V} {ds : List D} (h : CR K H Z al v (.tup ds)) : ∃ b, v = .ref b := by
  obtain ⟨a, xs, rfl, _⟩ := h.tup
  exact ⟨a, rfl⟩
def gInA (a b : D) : Option D := match b with
  | .dit ds => if isNK a then some (.bl (dgetN ds a).isSome) else none
  | _ => gInD a b
def gNotInA (a b : D) : Option D := match b with
  | .dit ds => if isNK a then some (.bl (!(dgetN ds a).isSome)) else none
  | _ => gNotInD a b
def gIxA (a b : D) : Option D := match a with
  | .dit ds => if isNK b then dgetN ds b else none
  | _ => gIx a b
theorem inN_core {G : Gh} {al : List Addr} {m : MS} {σ : St} {H : Hp} {x y : V} {da : D} {ds : List (D × D)} (r : Rst K cls own G al m σ H) (hx : CR K H (Zof G) al x da) (hy : CR K H (Zof G) al y (.dit ds)) (hk : isNK da = true) :
    ∃ (a b : Addr) (o : Obj) (xs : XS) (nk : NestedKey) (vs : List V), x = .ref b ∧ y = .ref a ∧ DNat K H a o xs ∧ KAt K.K H (.ref b) nk ∧ nk.depth ≤ 8 ∧ toNK da = some nk ∧ toNKs (ds.map Prod.fst) = some (xs.map (·.1)) ∧ Vals vs (xs.map (·.2.2)) ∧ DVs K (Zof G) al vs (ds.map Prod.snd) := by
  obtain ⟨es, nk, rfl, h1, h2⟩ := isNK_ok hk
  obtain ⟨b, rfl⟩ := hx.tref
  obtain ⟨a, o, xs, vs, rfl, q1, q2, q3, q4, q5, q6⟩ := hy
  exact ⟨a, b, o, xs, nk, vs, rfl, rfl, dnat_of r q1 q2 q3 q4, hx.kat r.zh h1, h2, h1, q4, q5, q6⟩
theorem ok_inA : OpOk K cls own (rOr (rInAll K.K false) (rInN K false)) gInA := by
  intro G al m σ H x y da db d Q r hx hy e k
  unfold gInA at e
  split at e
  · next ds =>
    split at e
    · next hk =>
      cases e
      obtain ⟨a, b, o, xs, nk, vs, rfl, rfl, dn, kb, dp, h1, q4, q5, q6⟩ := inN_core r hx hy hk
      refine .inr ⟨a, b, o, xs, nk, rfl, rfl, dn, kb, dp, ?_⟩
      obtain ⟨i1, i2⟩ := dgetN_at h1 q4 q5 q6
      have e : (atKey xs nk).isSome = (dgetN ds da).isSome := by
        cases q : dgetN ds da with
        | none => rw [i2 q]; rfl
        | some d => obtain ⟨p, v, h1, _⟩ := i1 d q; rw [h1]; rfl
      simp only [e]
      exact k.keep r (.bl _)
    · cases e
  · exact .inl (ok_in G al m σ H x y da db d Q r hx hy e k)
theorem ok_notInA : OpOk K cls own (rOr (rInAll K.K true) (rInN K true)) gNotInA := by
  intro G al m σ H x y da db d Q r hx hy e k
  unfold gNotInA at e
  split at e
  · next ds =>
    split at e
    · next hk =>
      cases e
      obtain ⟨a, b, o, xs, nk, vs, rfl, rfl, dn, kb, dp, h1, q4, q5, q6⟩ := inN_core r hx hy hk
      refine .inr ⟨a, b, o, xs, nk, rfl, rfl, dn, kb, dp, ?_⟩
      obtain ⟨i1, i2⟩ := dgetN_at h1 q4 q5 q6
      have e : (atKey xs nk).isSome = (dgetN ds da).isSome := by
        cases q : dgetN ds da with
        | none => rw [i2 q]; rfl
        | some d => obtain ⟨p, v, h1, _⟩ := i1 d q; rw [h1]; rfl
      simp only [e]
      exact k.keep r (.bl _)
    · cases e
  · exact .inl (ok_notIn G al m σ H x y da db d Q r hx hy e k)
theorem ok_ixA : OpOk K cls own (rOr (rIxAll K.K) (rIxN K)) gIxA := by
  intro G al m σ H x y da db d Q r hx hy e k
  unfold gIxA at e
  split at e
  · next ds =>
    split at e
    · next hk =>
      obtain ⟨a, b, o, xs, nk, vs, rfl, rfl, dn, kb, dp, h1, q4, q5, q6⟩ := inN_core r hy hx hk
      obtain ⟨p, v, i1, i2, i3⟩ := (dgetN_at h1 q4 q5 q6).1 d e
      exact .inr ⟨a, b, o, xs, nk, p, v, rfl, rfl, dn, kb, dp, i1, i2, k.keep r i3⟩
    · cases e
  · exact .inl (ok_ix G al m σ H x y da db d Q r hx hy e k)
end
section
variable {cls : Nat → Addr} {own : Nat → Bool} {X : Cx} {a b : Expr} {fa fb : Den Hd} {pos : Pos}
theorem op_inA (hu : X.A.units + 65 < cLine) : OpR X (compareOp .In) (rOr (rInAll X.K false) (rInN X.kx false)) := opR_or (op_inU hu) (op_inN hu)
theorem op_notInA (hu : X.A.units + 65 < cLine) : OpR X (compareOp .NotIn) (rOr (rInAll X.K true) (rInN X.kx true)) := opR_or (op_notInU hu) (op_notInN hu)
theorem se_ixA (hu : X.A.units + 65 < cLine) (ha : SH cls own X a fa) (hb : SH cls own X b fb) (hs : PlainIx b) : SE cls own X (.Subscript a b pos) (eOp gIxA fa fb) := by
  refine pe_imp (pe_ix (IxR.or (ix_all hu) (ix_N hu)) ha hb hs) fun σ H Q q => ?_
  obtain ⟨G, al, m, d, m', r, e, k⟩ := q
  obtain ⟨h1, m1, h2, x, y, e1, e2, l1, l2, gz⟩ := eOp_ok e
  refine ⟨G, al, m, h1, m1, r, e1, fun G1 al1 v H1 ev1 r1 hv1 => ⟨G1, al1, m1, h2, m', r1, e2, fun G2 al2 u H2 ev2 r2 hv2 => ?_⟩⟩
  exact ok_ixA G2 al2 m' σ H2 v u x y d Q r2 (look_cr r2 (hv1.ev ev2) l1) (look_cr r2 hv2 l2) gz fun G3 al3 w H3 ev3 r3 dv => k G3 al3 w H3 ((ev1.trans ev2).trans ev3) r3 dv
end
end MI

namespace MI
open PySem PySem.Spec L2

theorem ext_ok {P : Program} {w : World} {H : Hp} {h : Heap} {a : Addr} {o : Obj} (e : h.get? a = some o) : ObjOk P w H h a (hoN a o) := ⟨e, ⟨o, e⟩, fun _ _ p k => k _ p⟩
/-! ### a[k] = v, keys that are tuples -/
def rSetN (K : KX) : TSet := fun o i v H Q => ∃ (a b : Addr) (ob : Obj) (xs : XS) (nk : NestedKey), o = .ref a ∧ i = .ref b ∧ DNat K H a ob xs ∧ KAt K.K H (.ref b) nk ∧ nk.depth ≤ 8 ∧ xs.length < sizeLine ∧
  ∀ o' u, RelV v u → RawN K a o' (storedH xs nk b u) → Q (upd H a (hoN a o'))
theorem storedH_keys {xs : XS} {k : NestedKey} {b : Addr} {u : Value} : ∀ x ∈ storedH xs k b u, x.1 = k ∨ ∃ y ∈ xs, y.1 = x.1 := by
  intro x hx
  unfold storedH at hx
  split at hx
  · obtain ⟨y, hy, rfl⟩ := List.mem_map.mp hx
    unfold putAt
    split
    · exact .inr ⟨y, hy, rfl⟩
    · exact .inr ⟨y, hy, rfl⟩
  · rcases List.mem_append.mp hx with hx | hx
    · exact .inr ⟨x, hx, rfl⟩
    · rw [List.mem_singleton.mp hx]; exact .inl rfl
theorem set_N {X : Cx} (hu : X.A.units + 65 < cLine) : PSet X (rSetN X.kx) := by
  intro pins s σ H o i v ov iv u Q I ro ri rv h
  obtain ⟨a, b, ob, xs, nk, rfl, rfl, d, kb, hd, hl, q⟩ := h
  cases ro
  cases ri
  refine wpAny_setItem_heap (hsz := Nat.le_of_lt hl) (room8 hu) ⟨KAt.is I nk _ _ kb rfl, hd⟩ (d.dict I) fun h' dd' hs => ?_
  obtain ⟨o', es, ep, hq, h2, h3, h4, _, h5⟩ := dd'
  have raw : RawN X.kx a o' (storedH xs nk b u) := ⟨Nat.le_trans (storedH_length xs nk b u) hl, d.raw.ns, h2, ⟨es, ep, h3, h4⟩, h5, fun x hx => by
    rcases storedH_keys x hx with e | ⟨y, hy, e⟩
    · rw [e]; exact hd
    · rw [← e]; exact d.raw.dp y hy⟩
  exact ⟨_, d_write I (by rw [d.at_]; exact True.intro) hs ⟨o', hq⟩ (ext_ok hq), q o' u rv raw⟩
def rSetD : TSet := fun o i v H Q => ∃ a H', o = .ref a ∧ DPut H a i v H' ∧ Q H'
theorem set_D {X : Cx} (hu : X.A.units + 65 < cLine) : PSet X rSetD := by
  intro pins s σ H o i v ov iv u Q I ro ri rv h
  obtain ⟨a, H', rfl, g, q⟩ := h
  cases ro
  exact d_setItem (by omega) I g ri rv fun s' I' => ⟨H', I', q⟩
def tsOr (r1 r2 : TSet) : TSet := fun o i v H Q => r1 o i v H Q ∨ r2 o i v H Q
theorem set_or {X : Cx} {r1 r2 : TSet} (h1 : PSet X r1) (h2 : PSet X r2) : PSet X (tsOr r1 r2) := by
  intro pins s σ H o i v ov iv u Q I ro ri rv h
  rcases h with h | h
  · exact h1 pins s σ H o i v ov iv u Q I ro ri rv h
  · exact h2 pins s σ H o i v ov iv u Q I ro ri rv h
def rSetA (K : KX) : TSet := tsOr rSetL (tsOr rSetD (rSetN K))
theorem set_A {X : Cx} (hu : X.A.units + 65 < cLine) : PSet X (rSetA X.kx) := set_or set_list (set_or (set_D hu) (set_N hu))
/-! ### by data -/
def dput (ds : List (D × D)) (k v : D) : List (D × D) := if (dget ds k).isSome then ds.map (fun q => if kEq q.1 k then (q.1, v) else q) else ds ++ [(k, v)]
def dputN (ds : List (D × D)) (k v : D) : List (D × D) := if (dgetN ds k).isSome then ds.map (fun q => if kEqN q.1 k then (q.1, v) else q) else ds ++ [(k, v)]
def gSet : D → D → D → Option D
  | .lst ds, .int i, v => (ixN ds.length i).map fun j => .lst (ds.set j v)
  | .dic ds, k, v => if isKey k && decide (ds.length < sizeLine) then some (.dic (dput ds k v)) else none
  | .dit ds, k, v => if isNK k && decide (ds.length < sizeLine) then some (.dit (dputN ds k v)) else none
  | _, _, _ => none
section
variable {K : KX} {cls : Nat → Addr} {own : Nat → Bool}
theorem dput_K {Z : Hp} {al : List Addr} {k : Key} {v : V} {d : D} (hv : DV K Z al v d) {kvs : List (Key × V)} {ds : List (D × D)} (e : ds.map Prod.fst = kvs.map (fun q => kD q.1)) (r : DVs K Z al (kvs.map Prod.snd) (ds.map Prod.snd)) :
    (dput ds (kD k) d).map Prod.fst = (putK kvs k v).map (fun q => kD q.1) ∧ DVs K Z al ((putK kvs k v).map Prod.snd) ((dput ds (kD k) d).map Prod.snd) := by
  have hany : (kvs.any fun kv => decide (kv.1 = k)) = (dget ds (kD k)).isSome := by
    rw [valV_any]
    obtain ⟨i1, i2⟩ := dget_K k e r
    cases q : dget ds (kD k) with
    | none => rw [i2 q]; rfl
    | some d => obtain ⟨v, h1, _⟩ := i1 d q; rw [h1]; rfl
  unfold dput putK
  rw [hany]
  split
  · clear hany
    rename_i hs; clear hs
    induction kvs generalizing ds with
    | nil => cases ds with
      | nil => exact ⟨rfl, .nil⟩
      | cons _ _ => cases e
    | cons kv kvs ih => cases ds with
      | nil => cases e
      | cons q ds =>
        obtain ⟨qk, qd⟩ := q
        obtain ⟨kk, kv⟩ := kv
        have e' : qk :: ds.map Prod.fst = kD kk :: kvs.map (fun q => kD q.1) := e
        injection e' with e1 e2
        subst e1
        cases r with
        | cons r1 r2 =>
          obtain ⟨i1, i2⟩ := ih e2 r2
          simp only [List.map_cons]
          rw [kEq_kD]
          by_cases h : kk = k
          · subst h
            simp only [decide_true, if_true, List.cons.injEq]
            exact ⟨⟨trivial, i1⟩, .cons hv i2⟩
          · simp only [h, decide_false, Bool.false_eq_true, if_false, List.cons.injEq]
            exact ⟨⟨trivial, i1⟩, .cons r1 i2⟩
  · simp only [List.map_append, List.map_cons, List.map_nil]
    exact ⟨by rw [e], r.append (.cons hv .nil)⟩
theorem dputN_at {Z : Hp} {al : List Addr} {x : D} {nk : NestedKey} {b : Addr} {v : V} {u : Value} {d : D} (hx : toNK x = some nk) (hb : DV K Z al (.ref b) x) (hv : DV K Z al v d) (ru : RelV v u) {xs : XS} {ds : List (D × D)} {vs : List V} (hk : DVs K Z al (xs.map fun x => V.ref x.2.1) (ds.map Prod.fst))
    (e : toNKs (ds.map Prod.fst) = some (xs.map (·.1))) (rv : Vals vs (xs.map (·.2.2))) (r : DVs K Z al vs (ds.map Prod.snd)) :
    ∃ vs', DVs K Z al ((storedH xs nk b u).map fun x => V.ref x.2.1) ((dputN ds x d).map Prod.fst) ∧ toNKs ((dputN ds x d).map Prod.fst) = some ((storedH xs nk b u).map (·.1)) ∧ Vals vs' ((storedH xs nk b u).map (·.2.2)) ∧ DVs K Z al vs' ((dputN ds x d).map Prod.snd) := by
  have hany : (atKey xs nk).isSome = (dgetN ds x).isSome := by
    obtain ⟨i1, i2⟩ := dgetN_at hx e rv r
    cases q : dgetN ds x with
    | none => rw [i2 q]; rfl
    | some d => obtain ⟨p, v, h1, _⟩ := i1 d q; rw [h1]; rfl
  unfold dputN storedH
  rw [hany]
  split
  · clear hany
    rename_i hs; clear hs
    induction xs generalizing ds vs with
    | nil => cases ds with
      | nil => cases rv; exact ⟨[], .nil, rfl, .nil, .nil⟩
      | cons q ds => cases hk
    | cons y xs ih => cases ds with
      | nil => cases hk
      | cons q ds =>
        obtain ⟨qk, qd⟩ := q
        obtain ⟨k0, b0, u0⟩ := y
        obtain ⟨p, ps, h1, h2, e'⟩ := toNKs_cons e
        have e' : k0 :: xs.map (·.1) = p :: ps := e'
        injection e' with e1 e2
        rw [← e1] at h1
        rw [← e2] at h2
        have h1 : toNK qk = some k0 := h1
        cases hk with
        | cons k1 k2 =>
          cases rv with
          | cons rv1 rv2 =>
            cases r with
            | cons r1 r2 =>
              obtain ⟨vs', i1, i2, i3, i4⟩ := ih k2 h2 rv2 r2
              have hkq : kEqN qk x = decide (k0 = nk) := by unfold kEqN; rw [h1, hx, NestedKey.decide_eq]
              simp only [List.map_cons]
              rw [hkq]
              by_cases h : k0 = nk
              · have hp : putAt nk u (k0, b0, u0) = (k0, b0, u) := by unfold putAt; rw [if_pos h]
                rw [hp]
                simp only [h, decide_true, if_true]
                refine ⟨v :: vs', .cons k1 i1, ?_, .cons ru i3, .cons hv i4⟩
                rw [toNKs, h1, i2, h]
              · have hp : putAt nk u (k0, b0, u0) = (k0, b0, u0) := by unfold putAt; rw [if_neg h]
                rw [hp]
                simp only [h, decide_false, Bool.false_eq_true, if_false]
                refine ⟨_ :: vs', .cons k1 i1, ?_, .cons rv1 i3, .cons r1 i4⟩
                rw [toNKs, h1, i2]
  · simp only [List.map_append, List.map_cons, List.map_nil]
    refine ⟨vs ++ [v], hk.append (.cons hb .nil), ?_, rv.append (.cons ru .nil), r.append (.cons hv .nil)⟩
    have app : ∀ {as : List D} {ks : List NestedKey}, toNKs as = some ks → toNKs (as ++ [x]) = some (ks ++ [nk]) := by
      intro as
      induction as with
      | nil => intro ks h; cases h; rw [List.nil_append, toNKs, hx]; rfl
      | cons a as ih =>
        intro ks h
        obtain ⟨p, ps, h1, h2, rfl⟩ := toNKs_cons h
        rw [List.cons_append, toNKs, h1, ih h2]
        rfl
    exact app e
theorem CR.tupDV {H Z : Hp} {al : List Addr} {v : V} {d : D} (h : CR K H Z al v d) (e : isNK d = true) : DV K Z al v d := by
  obtain ⟨ds, k, rfl, _⟩ := isNK_ok e
  exact h
theorem ok_set {G : Gh} {al : List Addr} {m : MS} {σ : St} {H : Hp} {a : Addr} {o : HO} {d dk dv d' : D} {x v : V} {Q : Hp → Prop} (r : Rst K cls own G al m σ H) (ho : H a = some o) (c : CO K (Zof G) al a o d) (hx : CR K H (Zof G) al x dk) (hv : DV K (Zof G) al v dv) (e : gSet d dk dv = some d')
    (k : ∀ o', CO K (Zof G) al a o' d' → Q (upd H a o')) : rSetA K (.ref a) x v H Q := by
  unfold gSet at e
  split at e
  · next ds i =>
    cases q : ixN ds.length i with
    | none => rw [q] at e; cases e
    | some j =>
      rw [q] at e; cases e
      obtain ⟨xs, rfl, r1⟩ := c.lst
      cases hx.int
      exact .inl ⟨a, xs, i, j, rfl, rfl, ho, by rw [r1.length]; exact q, k (.lst _) (r1.set hv j)⟩
  · next ds =>
    split at e
    · next hk =>
      cases e
      rw [Bool.and_eq_true] at hk
      obtain ⟨k0, rfl⟩ := isKey_kD hk.1
      cases hx.key
      cases o with
      | dK kvs =>
        obtain ⟨c1, c2⟩ := c
        refine .inr (.inl ⟨a, _, rfl, DPut.k (k := k0) ho (by have h := congrArg List.length c1; simp only [List.length_map] at h; rw [← h]; exact of_decide_eq_true hk.2), k (.dK _) (dput_K hv c1 c2)⟩)
      | _ => exact (show False from c).elim
    · cases e
  · next ds =>
    split at e
    · next hk =>
      cases e
      rw [Bool.and_eq_true] at hk
      have hxd := hx.tupDV hk.1
      obtain ⟨es, nk, rfl, h1, h2⟩ := isNK_ok hk.1
      obtain ⟨b, rfl⟩ := hx.tref
      cases o with
      | ext φ =>
        obtain ⟨ob, xs, vs, rfl, q2, q3, q4, q5, q6⟩ := c
        refine .inr (.inr ⟨a, b, ob, xs, nk, rfl, rfl, dnat_of r ho q2 q3 q4, hx.kat r.zh h1, h2, ?_, fun o' u ru raw => ?_⟩)
        · have := q3.length
          simp only [List.length_map] at this
          rw [this]; exact of_decide_eq_true hk.2
        · obtain ⟨vs', i1, i2, i3, i4⟩ := dputN_at h1 hxd hv ru q3 q4 q5 q6
          exact k _ ⟨o', _, vs', rfl, raw, i1, i2, i3, i4⟩
      | _ => exact (show False from c).elim
    · cases e
  · cases e
end
/-- name[k] = v, the name an owned slot -/
def sPut (i : Nat) (fk : Den Hd) (fv : Den D) : Den Fl := fv.bind fun v => fun m1 => match m1.sl[i]? with
  | some (some _) => match fk m1 with
    | .ok hk m2 => match m2.sl[i]?, look hk m2 with
      | some (some d), some k => match gSet d k v with
        | some d' => .ok .nx { m2 with sl := m2.sl.set i (some d') }
        | none => .bad
      | _, _ => .bad
    | .bad => .bad
  | _ => .bad
section
variable {cls : Nat → Addr} {own : Nat → Bool} {X : Cx} {a b : Expr} {fk : Den Hd} {fv : Den D} {pos ps npos : Pos} {i : Nat} {x : Str}
theorem ss_put (hu : X.A.units + 65 < cLine) (hN : X.N[i]? = some x) (hvis : Vis X.env.scope x) (ho : own i = true) (hk : SH cls own X b fk) (hv : SE cls own X a fv)
    (hd : (x == ("__debug__" : Str)) = false := by decide) (hcd : (x == ("__classdict__" : Str)) = false := by decide)
    (hs : swapsWithSole [.Subscript (.Name x npos) b ps] a pos.line X.env = pure false := by rfl) (hw : swappedStores [.Subscript (.Name x npos) b ps] a X.env = pure none := by rfl)
    (ha : ∀ z, assign (.Subscript (.Name x npos) b ps) X.env z = (holding [z] (eval (.Name x npos) X.env) >>= fun o => holding [z, o] (eval b X.env) >>= fun j => standAt ps >>= fun _ => holding [z, o, j] (setItem o j z) >>= fun _ => release [z, o, j] []) := by intro _; rfl) :
    SS cls own X (.Assign [.Subscript (.Name x npos) b ps] a pos) (sPut i fk fv) := by
  refine ps_imp (ps_asg hv (pg_sub (pe_var (pos := npos) hN hvis hd hcd) hk (set_A hu) ha) hs hw) fun E σ H q => ?_
  obtain ⟨G, al, m, fl, m', r, e, k⟩ := q
  obtain ⟨v, m1, e1, e⟩ := bind_ok e
  split at e
  case h_2 => cases e
  next d0 e0 =>
  split at e
  case h_2 => cases e
  next hk m2 e2 =>
  split at e
  case h_2 => cases e
  next d dk e3 e4 =>
  split at e
  case h_2 => cases e
  next d' e5 =>
  cases e
  refine ⟨G, al, m, v, m1, r, e1, fun G1 al1 vv H1 ev1 r1 dv => ?_⟩
  obtain ⟨p, o0, s0, _, _⟩ := r1.own i _ e0 ho
  refine ⟨.ref p, s0, G1, al1, m1, hk, m2, r1, e2, fun G2 al2 y H2 ev2 r2 hy => ?_⟩
  obtain ⟨p', o, s1, g1, c1⟩ := r2.own i _ e3 ho
  rw [s0] at s1; cases s1
  refine ok_set r2 (r2.hst.gh _ _ _ g1) c1 (look_cr r2 hy e4) (dv.ev ev2) e5 fun o' c' => ?_
  obtain ⟨ev3, r3⟩ := r2.write e3 ho s0 g1 c'
  exact k _ al2 σ _ ((ev1.trans ev2).trans ev3) r3
/-! ### {} -/
theorem sf_dic : SF cls own X (.Dict [] [] pos) (eC (.dic [])) := by
  refine pe_imp pe_dnewK fun σ H Q q => ?_
  obtain ⟨G, al, m, d, m', r, e, k⟩ := q
  cases e
  exact fun p hp => k G al p _ _ .refl (r.fresh hp) upd_same (r.hst.nog hp) ⟨rfl, .nil⟩
theorem pe_dnewN {X : Cx} : PE X (.Dict [] [] pos) (fun _ H Q => ∀ p o, H p = none → RawN X.kx p o [] → Q (.ref p) (upd H p (hoN p o))) := by
  refine ⟨fun pins s σ H Q I h => ?_⟩
  have hg : (s.heap.push { cls := .type "dict", data := .dict #[] }).get? s.heap.objs.size = some { cls := .type "dict", data := .dict #[] } := Heap.get?_push_size _ rfl
  refine wpAny_Dict_empty ⟨.ref s.heap.objs.size, _, I.laid (a := s.heap.objs.size) (o := hoN s.heap.objs.size { cls := .type "dict", data := .dict #[] }) (t' := s.toks) (fun _ _ z => Heap.get?_push_of_some _ z) (Nat.le_refl _) (ext_ok hg), rfl, h _ _ (I.hok.fresh (Nat.le_refl _)) ⟨Nat.zero_le _, beq_eq_false_iff_ne.mpr (Nat.ne_of_gt I.big), ⟨rfl, rfl, rfl⟩, ⟨#[], _, rfl, rfl⟩, List.nodup_nil, fun x hx => (nomatch hx)⟩⟩
theorem sf_dit : SF cls own X (.Dict [] [] pos) (eC (.dit [])) := by
  refine pe_imp pe_dnewN fun σ H Q q => ?_
  obtain ⟨G, al, m, d, m', r, e, k⟩ := q
  cases e
  exact fun p o hp raw => k G al p _ _ .refl (r.fresh hp) upd_same (r.hst.nog hp) ⟨o, [], [], rfl, raw, .nil, rfl, .nil, .nil⟩
/-! ### globals -/
theorem se_glob {v : V} {u : Value} {d : D} {y : Str} (hg : Gl X y) (hm : X.mg y = some u) (rv : RelV v u) (hd : DV X.kx (fun _ => none) [] v d) (hdb : (y == ("__debug__" : Str)) = false := by decide) : SE cls own X (.Name y pos) (eC d) := by
  refine pe_imp (pe_glob hg hm rv hdb) fun σ H Q q => ?_
  obtain ⟨G, al, m, d0, m', r, e, k⟩ := q
  cases e
  exact k G al v H .refl r (hd.mono (fun a o (z : (none : Option HO) = some o) => nomatch z) List.nil_prefix)
end
end MI

namespace MI
open PySem PySem.Spec L2

theorem enum_new1 {v : Value} {o : Obj} {H : Heap → Prop} (B : Begins v o H) :
    Meets (Builtin.«enumerate.__new__» ⟨[.type "enumerate", v], []⟩) (fun _ R s => H s.heap ∧
      R (.ok (.ret (.ref (s.heap.push o).objs.size))) { s with heap := (s.heap.push o).push { cls := .type "enumerate", data := .fields #[.none, .bool false, .ref s.heap.objs.size, rawInt 0, .none, .none] } }) :=
  .of_wp fun prog w A R s h => by
    obtain ⟨hp, g, d, tk, os⟩ := s
    obtain ⟨h1, h⟩ := h
    have hsub := sub_enumerate
    have it1 : ∀ {B' : Around} {F : Value → Shared → Prop} {Q : Value → Shared → Prop}, Q (.ref hp.objs.size) ⟨hp.push o, g, d, tk, os⟩ → wpAny (model prog w) B' (pyIter v) Q F ⟨hp, g, d, tk, os⟩ :=
      fun z => B.iter prog w _ _ ⟨hp, g, d, tk, os⟩ _ h1 z
    wp_walk using it1
    refine wpAny_stack_any fun st => wpAny_pure ?_
    split
    · rename_i c _ _ _ _ _
      cases (c == Value.type "enumerate") <;> (wp_walk using it1; exact ⟨_, rfl, h⟩)
    · (wp_walk using it1; exact ⟨_, rfl, h⟩)
section
variable {prog : Program} {w : World} {A : Around} {E : Value → Shared → Prop} {s : Shared}
theorem enum_call1 {v : Value} {o : Obj} {H : Heap → Prop} {Q : Value → Shared → Prop} (B : Begins v o H) (h1 : H s.heap)
    (h : ∀ h', IsEnum h' (s.heap.objs.size + 1) s.heap.objs.size 0 .none → h'.get? s.heap.objs.size = some o → h'.objs.size = s.heap.objs.size + 2 →
      (∀ b o, s.heap.get? b = some o → h'.get? b = some o) → Q (.ref (s.heap.objs.size + 1)) { s with heap := h' }) :
    wpAny (model prog w) A (call (.type "enumerate") [v]) Q E s := by
  refine callType_new F.called_enumerate (by decide) (F.typeCall_enumerate_1 _) (F.newCall_enumerate_1 _) (fun ob => F.args_object_init_2 ob _) F.entry_enumerate_new (enum_new1 B) ⟨h1, ?_⟩
  have sz : (s.heap.push o).objs.size = s.heap.objs.size + 1 := Heap.size_push ..
  show _ ∧ _
  rw [sz]
  have en : IsEnum ((s.heap.push o).push { cls := .type "enumerate", data := .fields #[.none, .bool false, .ref s.heap.objs.size, rawInt 0, .none, .none] }) (s.heap.objs.size + 1) s.heap.objs.size 0 .none := by
    have z := Heap.get?_push_size (s.heap.push o) (o := { cls := .type "enumerate", data := .fields #[.none, .bool false, .ref s.heap.objs.size, rawInt 0, .none, .none] }) rfl
    rw [sz] at z
    exact z
  exact ⟨⟨_, en, rfl⟩, h _ en (Heap.get?_push_of_some _ (Heap.get?_push_size _ B.free)) (by rw [Heap.size_push, sz]) fun b ob x => Heap.get?_push_of_some _ (Heap.get?_push_of_some _ x)⟩
end
/-- a new pair of the turn's number and the tuple's item -/
def IteT (K : PySem.W.Frag) (a : Addr) : It :=
  ⟨fun i H => ∃ (xs : List V) (x : V), SqT K H a xs ∧ xs[i]? = some x,
   fun i H v H' => ∃ T x ob, v = .ref T ∧ H T = none ∧ ob.dict = none ∧ H' = upd H T (.frz ob (.tup [.int (i : Nat), x])) ∧ ∀ xs, SqT K H a xs → xs[i]? = some x,
   fun i H => ∃ xs : List V, SqT K H a xs ∧ xs.length = i⟩
theorem turn_enumT {P : Program} {w : World} {K : PySem.W.Frag} {elts : List Expr} {kk : Nat} {tpos : Pos} (a e it : Addr) :
    Turn P w K (.Tuple elts kk tpos) (IteT K a) [e, it] e (fun i h => (∃ old, IsEnum h e it ((i : Nat) : Int) old) ∧ h.IsTupleIter it a i ∧ e ≠ it) where
  mem := by simp
  obj := fun i h st b hb => by
    obtain ⟨⟨old, he⟩, ⟨o, ho, hc, hd⟩, _⟩ := st
    rcases (show b = e ∨ b = it by simpa using hb) with z | z
    · subst z; exact ⟨_, he, fun v q => nomatch q⟩
    · subst z; exact ⟨o, ho, fun v q => by rw [hd] at q; cases q⟩
  keep := fun i h h' st k => let ⟨⟨old, he⟩, hi, hne⟩ := st; ⟨⟨old, k e (by simp) _ he⟩, hi.at fun o q => k it (by simp) o q, hne⟩
  item := by
    intro X hP hw hK hc i pins s σ H E I hf st hg
    subst hP hw hK
    obtain ⟨⟨old, he⟩, hit, hne⟩ := st
    obtain ⟨xs, x, hq, hx⟩ := hg
    obtain ⟨its, rv, p, hz⟩ := I.tuple hq
    obtain ⟨u, hu, ru⟩ := rv.get hx
    have hel : e < s.heap.objs.size := Heap.lt_size he
    have hil : it < s.heap.objs.size := by obtain ⟨_, q, _⟩ := hit; exact Heap.lt_size q
    have hpt : s.heap.IsTuple a its.toArray := p
    have hai : a ≠ it := by
      rintro rfl
      obtain ⟨o1, e1, c1, d1⟩ := hit
      obtain ⟨o2, e2, c2, n2, d2⟩ := p
      rw [e1] at e2; cases e2; rw [d1] at d2; cases d2
    have hea : e ≠ a := by
      rintro rfl
      obtain ⟨o2, e2, c2, n2, d2⟩ := p
      rw [show s.heap.get? e = _ from he] at e2; cases e2; cases d2
    have hil2 : i < its.toArray.size := by
      have := (List.getElem?_eq_some_iff.mp hu).1
      simpa using this
    have Dr := Draws.tuple (prog := X.prog) (w := X.w) (A := X.A.in1) (by have := I.ok.hd hc; exact this) it a hai its.toArray
    refine wpAny_pyNext_enum_itemD Dr he ⟨hit, hpt⟩ hil2 hne (by simp [hne, hea]) fun y h' tk hy ho hst' hT hsz hk => ?_
    have hyu : y = u := by
      have h1 : its.toArray[i]? = some y := hy
      have h2 : its.toArray[i]? = some u := by simpa using hu
      rw [h1] at h2; exact Option.some.inj h2
    subst hyu
    refine ⟨_, rfl, wpAny_letOwnedTupleGo_enum (s := { s with heap := h', toks := tk + 1 }) ho fun h'' he' sb => ?_⟩
    have hT2 : h''.get? s.heap.objs.size = some { cls := .type "tuple", data := .seq #[.int i tk, y] } := (sb.2 _ (Nat.ne_of_gt hel)).trans hT
    have nw : ObjOk X.prog X.w (upd H s.heap.objs.size (.frz (newT [.int i tk, y]) (.tup [.int (i : Nat), x]))) h'' s.heap.objs.size (.frz (newT [.int i tk, y]) (.tup [.int (i : Nat), x])) :=
      newT_ok (by show 2 ≤ sizeLine; decide) (.cons ⟨_, rfl⟩ (.cons ru .nil)) hT2
    have I1 : Inv X pins σ (upd H s.heap.objs.size (.frz (newT [.int i tk, y]) (.tup [.int (i : Nat), x]))) { s with heap := h'', toks := tk + 1 } :=
      I.turnedNew (ch := [e, it]) (fun b ob hb q => (sb.2 b (fun z => hb (by simp [z]))).trans (hk b ob (fun z => hb (by simp [z])) (fun z => hb (by simp [z])) q)) hf (Nat.le_refl _) nw
    refine ⟨.ref s.heap.objs.size, _, I1, rfl, ⟨_, x, _, rfl, I.hok.fresh (Nat.le_refl _), rfl, rfl, fun ys hy => by rw [I.tuple_inj hy hq]; exact hx⟩, ⟨⟨y, ?_⟩, hst'.1.at fun o q => (sb.2 it (Ne.symm hne)).trans q, hne⟩, fun b hb => ?_⟩
    · have z : ((i + 1 : Nat) : Int) = (i : Int) + 1 := by omega
      rw [z]; exact he'
    · have hb' : b < s.heap.objs.size := by
        rcases (show b = e ∨ b = it by simpa using hb) with z | z
        · subst z; exact hel
        · subst z; exact hil
      rw [upd_ne (Nat.ne_of_lt hb')]
      exact (hf b hb).1
  done := by
    intro X hP hw hK hc i pins s σ H E I hf st hg
    subst hP hw hK
    obtain ⟨⟨old, he⟩, hit, hne⟩ := st
    obtain ⟨xs, hq, hx⟩ := hg
    obtain ⟨its, rv, p, hz⟩ := I.tuple hq
    obtain ⟨f0, f1, f2, f3, f4, f5⟩ := hf it (by simp)
    have hpt : s.heap.IsTuple a its.toArray := p
    have hai : a ≠ it := by
      rintro rfl
      obtain ⟨o1, e1, c1, d1⟩ := hit
      obtain ⟨o2, e2, c2, n2, d2⟩ := p
      rw [e1] at e2; cases e2; rw [d1] at d2; cases d2
    have hn : its.toArray.size = i := by
      have := rv.length
      simp only [List.size_toArray]
      omega
    have Dr := Draws.tuple (prog := X.prog) (w := X.w) (A := X.A.in1) (by have := I.ok.hd hc; exact this) it a hai its.toArray
    refine wpAny_pyNext_enum_endD Dr he (by rw [hn]; exact ⟨hit, hpt⟩) fun h' eb => ⟨rfl, I.turned (t' := s.toks) (fun b o hb q => eb b o hb q) f0 f1 f3 f4 f5⟩
  self := fun A i s Q E st h => let ⟨⟨_, he⟩, _⟩ := st; wpAny_pyIter_enum he h
/-- a new pair of the turn's number and the list's item -/
def IteL (K : PySem.W.Frag) (a : Addr) : It :=
  ⟨fun i H => ∃ (xs : List V) (x : V), SqL K H a xs ∧ xs[i]? = some x,
   fun i H v H' => ∃ T x ob, v = .ref T ∧ H T = none ∧ ob.dict = none ∧ H' = upd H T (.frz ob (.tup [.int (i : Nat), x])) ∧ ∀ xs, SqL K H a xs → xs[i]? = some x,
   fun i H => ∃ xs : List V, SqL K H a xs ∧ xs.length = i⟩
theorem turn_enumL {P : Program} {w : World} {K : PySem.W.Frag} {elts : List Expr} {kk : Nat} {tpos : Pos} (a e it : Addr) :
    Turn P w K (.Tuple elts kk tpos) (IteL K a) [e, it] e (fun i h => (∃ old, IsEnum h e it ((i : Nat) : Int) old) ∧ h.IsListIter it a i ∧ e ≠ it) where
  mem := by simp
  obj := fun i h st b hb => by
    obtain ⟨⟨old, he⟩, ⟨o, ho, hc, hd⟩, _⟩ := st
    rcases (show b = e ∨ b = it by simpa using hb) with z | z
    · subst z; exact ⟨_, he, fun v q => nomatch q⟩
    · subst z; exact ⟨o, ho, fun v q => by rw [hd] at q; cases q⟩
  keep := fun i h h' st k => let ⟨⟨old, he⟩, hi, hne⟩ := st; ⟨⟨old, k e (by simp) _ he⟩, hi.at fun o q => k it (by simp) o q, hne⟩
  item := by
    intro X hP hw hK hc i pins s σ H E I hf st hg
    subst hP hw hK
    obtain ⟨⟨old, he⟩, hit, hne⟩ := st
    obtain ⟨xs, x, hq, hx⟩ := hg
    obtain ⟨its, rv, p, hz⟩ := I.list hq
    obtain ⟨u, hu, ru⟩ := rv.get hx
    have hel : e < s.heap.objs.size := Heap.lt_size he
    have hil : it < s.heap.objs.size := by obtain ⟨_, q, _⟩ := hit; exact Heap.lt_size q
    have hpt : s.heap.IsList a its.toArray := p.isList
    have hai : a ≠ it := by
      rintro rfl
      obtain ⟨o1, e1, c1, d1⟩ := hit
      obtain ⟨o2, e2, c2, n2, d2⟩ := p.isList
      rw [e1] at e2; cases e2; rw [d1] at d2; cases d2
    have hea : e ≠ a := by
      rintro rfl
      obtain ⟨o2, e2, c2, n2, d2⟩ := p.isList
      rw [show s.heap.get? e = _ from he] at e2; cases e2; cases d2
    have hil2 : i < its.toArray.size := by
      have := (List.getElem?_eq_some_iff.mp hu).1
      simpa using this
    have Dr := Draws.list (prog := X.prog) (w := X.w) (A := X.A.in1) (by have := I.ok.hd hc; exact this) it a hai its.toArray
    refine wpAny_pyNext_enum_itemD Dr he ⟨hit, hpt⟩ hil2 hne (by simp [hne, hea]) fun y h' tk hy ho hst' hT hsz hk => ?_
    have hyu : y = u := by
      have h1 : its.toArray[i]? = some y := hy
      have h2 : its.toArray[i]? = some u := by simpa using hu
      rw [h1] at h2; exact Option.some.inj h2
    subst hyu
    refine ⟨_, rfl, wpAny_letOwnedTupleGo_enum (s := { s with heap := h', toks := tk + 1 }) ho fun h'' he' sb => ?_⟩
    have hT2 : h''.get? s.heap.objs.size = some { cls := .type "tuple", data := .seq #[.int i tk, y] } := (sb.2 _ (Nat.ne_of_gt hel)).trans hT
    have nw : ObjOk X.prog X.w (upd H s.heap.objs.size (.frz (newT [.int i tk, y]) (.tup [.int (i : Nat), x]))) h'' s.heap.objs.size (.frz (newT [.int i tk, y]) (.tup [.int (i : Nat), x])) :=
      newT_ok (by show 2 ≤ sizeLine; decide) (.cons ⟨_, rfl⟩ (.cons ru .nil)) hT2
    have I1 : Inv X pins σ (upd H s.heap.objs.size (.frz (newT [.int i tk, y]) (.tup [.int (i : Nat), x]))) { s with heap := h'', toks := tk + 1 } :=
      I.turnedNew (ch := [e, it]) (fun b ob hb q => (sb.2 b (fun z => hb (by simp [z]))).trans (hk b ob (fun z => hb (by simp [z])) (fun z => hb (by simp [z])) q)) hf (Nat.le_refl _) nw
    refine ⟨.ref s.heap.objs.size, _, I1, rfl, ⟨_, x, _, rfl, I.hok.fresh (Nat.le_refl _), rfl, rfl, fun ys hy => by rw [I.list_inj hy hq]; exact hx⟩, ⟨⟨y, ?_⟩, hst'.1.at fun o q => (sb.2 it (Ne.symm hne)).trans q, hne⟩, fun b hb => ?_⟩
    · have z : ((i + 1 : Nat) : Int) = (i : Int) + 1 := by omega
      rw [z]; exact he'
    · have hb' : b < s.heap.objs.size := by
        rcases (show b = e ∨ b = it by simpa using hb) with z | z
        · subst z; exact hel
        · subst z; exact hil
      rw [upd_ne (Nat.ne_of_lt hb')]
      exact (hf b hb).1
  done := by
    intro X hP hw hK hc i pins s σ H E I hf st hg
    subst hP hw hK
    obtain ⟨⟨old, he⟩, hit, hne⟩ := st
    obtain ⟨xs, hq, hx⟩ := hg
    obtain ⟨its, rv, p, hz⟩ := I.list hq
    obtain ⟨f0, f1, f2, f3, f4, f5⟩ := hf it (by simp)
    have hpt : s.heap.IsList a its.toArray := p.isList
    have hai : a ≠ it := by
      rintro rfl
      obtain ⟨o1, e1, c1, d1⟩ := hit
      obtain ⟨o2, e2, c2, n2, d2⟩ := p.isList
      rw [e1] at e2; cases e2; rw [d1] at d2; cases d2
    have hn : its.toArray.size = i := by
      have := rv.length
      simp only [List.size_toArray]
      omega
    have Dr := Draws.list (prog := X.prog) (w := X.w) (A := X.A.in1) (by have := I.ok.hd hc; exact this) it a hai its.toArray
    refine wpAny_pyNext_enum_endD Dr he (by rw [hn]; exact ⟨hit, hpt⟩) fun h' eb => ⟨rfl, I.turned (t' := s.toks) (fun b o hb q => eb b o hb q) f0 f1 f3 f4 f5⟩
  self := fun A i s Q E st h => let ⟨⟨_, he⟩, _⟩ := st; wpAny_pyIter_enum he h
theorem begins_tup (l : Addr) (items : Array Value) : Begins (.ref l) { cls := .type "tuple_iterator", data := .fields #[.ref l, .int 0 0] } fun h => h.IsTuple l items where
  iter := fun prog w A E s Q hl h => wpAny_pyIter_tuple hl h
  keeps := fun h h' x hk => x.at fun o e => hk l o e
  free := rfl
def iEnumS (K : PySem.W.Frag) (ta : TA) : TI := fun σ H R => ta σ H fun vs H1 => ∃ a, vs = [.ref a] ∧ ((∃ xs, SqL K H1 a xs ∧ R (IteL K a) H1) ∨ (∃ xs, SqT K H1 a xs ∧ R (IteT K a) H1))
theorem pi_enumS {X : Cx} {e : Expr} {ta : TA} {p pos tpos : Pos} {elts : List Expr} {kk : Nat} (hg : Gl X "enumerate") (hm : X.mg "enumerate" = none) (ha : PA X [e] ta) (hs : starEach [e] X.env = [(false, eval e X.env)] := by rfl) :
    PI X (.Tuple elts kk tpos) (.Call (.Name "enumerate" p) [e] [] pos) (iEnumS X.K ta) := by
  refine ⟨fun pins s σ H R I h => ?_⟩
  refine PyProof.Rows.Call_ (ld_blt I hg hm PyProof.Rows.boot_enumerate (PyProof.Rows.callWith_type1 (thn (ha.run pos pins s σ H _ I h) fun us s1 ⟨vs, H1, I1, r1, q1⟩ => ?_) hs rfl))
  obtain ⟨a, ex, q⟩ := q1
  subst ex
  cases r1 with
  | cons r rr =>
    cases rr
    cases r
    have fp : ∀ b ∈ [s1.heap.objs.size + 1, s1.heap.objs.size], FpOk X pins H1 b := by
      intro b hb
      have le : s1.heap.objs.size ≤ b := by
        rcases (show b = s1.heap.objs.size + 1 ∨ b = s1.heap.objs.size by simpa using hb) with z | z <;> omega
      exact I1.fpOk le (I1.hok.fresh le)
    rcases q with ⟨xs, hq, q⟩ | ⟨xs, hq, q⟩
    · obtain ⟨its, rv, pl, hz⟩ := I1.list hq
      refine enum_call1 (begins_list a its.toArray) pl.isList fun h' he hit hsz hk => wpAny_pyIter_enum he ?_
      exact ⟨s1.heap.objs.size + 1, [s1.heap.objs.size + 1, s1.heap.objs.size], _, _, H1, rfl, I1.kept (t' := s1.toks) hk, turn_enumL a (s1.heap.objs.size + 1) s1.heap.objs.size, ⟨⟨.none, he⟩, ⟨_, hit, rfl, rfl⟩, Nat.succ_ne_self _⟩, fp, q⟩
    · obtain ⟨its, rv, pl, hz⟩ := I1.tuple hq
      refine enum_call1 (begins_tup a its.toArray) (show s1.heap.IsTuple a its.toArray from pl) fun h' he hit hsz hk => wpAny_pyIter_enum he ?_
      exact ⟨s1.heap.objs.size + 1, [s1.heap.objs.size + 1, s1.heap.objs.size], _, _, H1, rfl, I1.kept (t' := s1.toks) hk, turn_enumT a (s1.heap.objs.size + 1) s1.heap.objs.size, ⟨⟨.none, he⟩, ⟨_, hit, rfl, rfl⟩, Nat.succ_ne_self _⟩, fp, q⟩
/-! ### by data -/
def enumD (k : Int) : List D → List D
  | [] => []
  | d :: ds => .tup [.int k, d] :: enumD (k + 1) ds
theorem enumD_len : ∀ (ds : List D) (k : Int), (enumD k ds).length = ds.length
  | [], _ => rfl
  | d :: ds, k => by rw [enumD, List.length_cons, List.length_cons, enumD_len ds]
theorem enumD_get : ∀ (ds : List D) (k : Int) (i : Nat) (d : D), ds[i]? = some d → (enumD k ds)[i]? = some (.tup [.int (k + i), d])
  | [], _, _, _, h => by simp at h
  | x :: ds, k, 0, d, h => by
    have : x = d := by simpa using h
    subst this
    rw [enumD]; simp
  | x :: ds, k, i + 1, d, h => by
    rw [enumD, List.getElem?_cons_succ, enumD_get ds (k + 1) i d (by simpa using h), show k + 1 + (i : Int) = k + ((i + 1 : Nat) : Int) by omega]
/-- the new pair is told -/
theorem yield_pair {K : KX} {cls : Nat → Addr} {own : Nat → Bool} {G : Gh} {al : List Addr} {m : MS} {σ : St} {H : Hp} {T : Addr} {x y : V} {dx dy : D} (rs : Rst K cls own G al m σ H) {ob : Obj} (hT : H T = none) (hdb : ob.dict = none) (hx : DV K (Zof G) al x dx) (hy : DV K (Zof G) al y dy) :
    ∃ G', Ev G al G' al ∧ Rst K cls own G' al m σ (upd H T (.frz ob (.tup [x, y]))) ∧ DV K (Zof G') al (.ref T) (.tup [dx, dy]) ∧ (∀ a t o, G a = some (t, o) → G' a = some (t, o)) := by
  have hn := rs.hst.nog hT
  have ev : Ev G al (putG G T .frz (.frz ob (.tup [x, y]))) al := ev_put hn
  refine ⟨_, ev, (rs.fresh hT).tag hn upd_same, .tup (.inl ⟨ob, hdb, zof_of putG_same⟩) (.cons (hx.ev ev) (.cons (hy.ev ev) .nil)), fun a t o e => ?_⟩
  rw [putG_ne (by intro z; subst z; rw [hn] at e; cases e)]
  exact e
section
variable {cls : Nat → Addr} {own : Nat → Bool} {X : Cx} {e : Expr} {pos p tpos : Pos} {fs : Den (List Hd)} {elts : List Expr} {kk : Nat}
theorem walk_enumL {K : KX} {Gs : Gh} {als : List Addr} {p : Addr} {xs : List V} {ds : List D} (h : Zof Gs p = some (.lst xs)) (r : DVs K (Zof Gs) als xs ds) : WalkD K cls own (IteL K.K p) (enumD 0 ds) Gs als where
  goes := fun G al m σ H i ev rs hi => by
    rw [enumD_len] at hi
    obtain ⟨v, h1, _⟩ := r.get (List.getElem?_eq_getElem hi)
    exact ⟨xs, v, .inl (.inl (rs.zh _ _ (ev.same _ _ h))), h1⟩
  stops := fun G al m σ H ev rs => ⟨xs, .inl (.inl (rs.zh _ _ (ev.same _ _ h))), by rw [enumD_len, r.length]⟩
  yields := fun G al m σ H i x H' d ev rs hd y => by
    obtain ⟨T, x0, ob, rfl, hT, hdb, rfl, hx0⟩ := y
    have hi : i < ds.length := by have := (List.getElem?_eq_some_iff.mp hd).1; rw [enumD_len] at this; exact this
    rw [enumD_get ds 0 i _ (List.getElem?_eq_getElem hi)] at hd
    cases hd
    obtain ⟨v, h1, h2⟩ := (r.evz ev).get (List.getElem?_eq_getElem hi)
    have := hx0 xs (.inl (.inl (rs.zh _ _ (ev.same _ _ h))))
    rw [h1] at this; cases this
    have z : (0 : Int) + (i : Int) = (i : Int) := Int.zero_add _
    rw [z]
    exact yield_pair rs hT hdb (.int _) h2
theorem walk_enumT {K : KX} {Gs : Gh} {als : List Addr} {p : Addr} {xs : List V} {ds : List D} (h : SqN K.K (Zof Gs) p xs) (r : DVs K (Zof Gs) als xs ds) : WalkD K cls own (IteT K.K p) (enumD 0 ds) Gs als where
  goes := fun G al m σ H i ev rs hi => by
    rw [enumD_len] at hi
    obtain ⟨v, h1, _⟩ := r.get (List.getElem?_eq_getElem hi)
    exact ⟨xs, v, Same.tupS rs.zh (Same.tupN ev.same h), h1⟩
  stops := fun G al m σ H ev rs => ⟨xs, Same.tupS rs.zh (Same.tupN ev.same h), by rw [enumD_len, r.length]⟩
  yields := fun G al m σ H i x H' d ev rs hd y => by
    obtain ⟨T, x0, ob, rfl, hT, hdb, rfl, hx0⟩ := y
    have hi : i < ds.length := by have := (List.getElem?_eq_some_iff.mp hd).1; rw [enumD_len] at this; exact this
    rw [enumD_get ds 0 i _ (List.getElem?_eq_getElem hi)] at hd
    cases hd
    obtain ⟨v, h1, h2⟩ := (r.evz ev).get (List.getElem?_eq_getElem hi)
    have := hx0 xs (Same.tupS rs.zh (Same.tupN ev.same h))
    rw [h1] at this; cases this
    have z : (0 : Int) + (i : Int) = (i : Int) := Int.zero_add _
    rw [z]
    exact yield_pair rs hT hdb (.int _) h2
def iEnum (f : Den (List Hd)) : Den (List D) := f.bind fun hs => fun m => match looksV hs with
  | some [.lst ds] => .ok (enumD 0 ds) m
  | some [.tup ds] => .ok (enumD 0 ds) m
  | _ => .bad
theorem si_enum (hg : Gl X "enumerate") (hm : X.mg "enumerate" = none) (ha : SHs cls own X [e] fs) (hs : starEach [e] X.env = [(false, eval e X.env)] := by rfl) :
    SI cls own X (.Tuple elts kk tpos) (.Call (.Name "enumerate" p) [e] [] pos) (iEnum fs) := by
  refine pi_imp (pi_enumS hg hm ha hs) fun σ H R q => ?_
  obtain ⟨G, al, m, ds, m', r, e, k⟩ := q
  obtain ⟨hs, m1, e1, e⟩ := bind_ok e
  refine ⟨G, al, m, hs, m1, r, e1, fun G1 al1 v H1 ev1 r1 hv => ?_⟩
  split at e
  · next ds l =>
    cases e
    have dv := looksV_dv hv l
    cases dv with
    | cons d1 d2 =>
      cases d2
      cases d1 with
      | lst h1 h2 => exact ⟨_, rfl, .inl ⟨_, .inl (.inl (r1.zh _ _ h1)), k G1 al1 H1 _ ev1 r1 (walk_enumL h1 h2)⟩⟩
  · next ds l =>
    cases e
    have dv := looksV_dv hv l
    cases dv with
    | cons d1 d2 =>
      cases d2
      cases d1 with
      | tup h1 h2 => exact ⟨_, rfl, .inr ⟨_, Same.tupS r1.zh h1, k G1 al1 H1 _ ev1 r1 (walk_enumT h1 h2)⟩⟩
  · cases e
end
end MI

namespace MI
open PySem PySem.Spec L2

theorem wipeM_at (sl : List (Option D)) {i : Nat} : ∀ {vs : List Nat}, (wipeM sl vs)[i]? = if i ∈ vs then (if i < sl.length then some none else none) else sl[i]?
  | [] => by simp [wipeM]
  | v :: vs => by
    rw [wipeM]
    by_cases e : v = i
    · subst e
      simp only [List.mem_cons, true_or, if_true]
      by_cases hl : v < sl.length
      · rw [List.getElem?_set_self (by rw [wipeM_len]; exact hl), if_pos hl]
      · rw [List.getElem?_eq_none (by rw [List.length_set, wipeM_len]; omega), if_neg hl]
    · rw [List.getElem?_set_ne e, wipeM_at sl]
      have : (i ∈ v :: vs) ↔ i ∈ vs := by simp [Ne.symm e]
      simp only [this]
theorem wipeM_sub {sl : List (Option D)} {vs ws : List Nat} (h : ∀ j ∈ ws, j ∈ vs) : wipeM (wipeM sl ws) vs = wipeM sl vs := by
  apply List.ext_getElem?
  intro i
  rw [wipeM_at (wipeM sl ws), wipeM_len]
  by_cases hn : i ∈ vs
  · rw [if_pos hn, wipeM_at sl (vs := vs), if_pos hn]
  · rw [if_neg hn, wipeM_at sl (vs := ws), if_neg fun z => hn (h i z), wipeM_at sl (vs := vs), if_neg hn]
theorem wipe_at (σ : St) {i : Nat} : ∀ {vs : List Nat}, (wipe σ vs)[i]? = if i ∈ vs then (if i < σ.length then some none else none) else σ[i]?
  | [] => by simp [wipe]
  | v :: vs => by
    rw [wipe]
    by_cases e : v = i
    · subst e
      simp only [List.mem_cons, true_or, if_true]
      by_cases hl : v < σ.length
      · rw [List.getElem?_set_self (by rw [wipe_length]; exact hl), if_pos hl]
      · rw [List.getElem?_eq_none (by rw [List.length_set, wipe_length]; omega), if_neg hl]
    · rw [List.getElem?_set_ne e, wipe_at σ]
      have : (i ∈ v :: vs) ↔ i ∈ vs := by simp [Ne.symm e]
      simp only [this]
theorem wipe_sub {σ : St} {vs ws : List Nat} (h : ∀ j ∈ ws, j ∈ vs) : wipe (wipe σ ws) vs = wipe σ vs := by
  apply List.ext_getElem?
  intro i
  rw [wipe_at (wipe σ ws), wipe_length]
  by_cases hn : i ∈ vs
  · rw [if_pos hn, wipe_at σ (vs := vs), if_pos hn]
  · rw [if_neg hn, wipe_at σ (vs := ws), if_neg fun z => hn (h i z), wipe_at σ (vs := vs), if_neg hn]

theorem del_put {G : Gh} {a : Addr} {t : Tag} {o : HO} : delG (putG G a t o) a = delG G a := by
  funext b
  by_cases e : b = a
  · subst e; rw [delG_same, delG_same]
  · rw [delG_ne e, putG_ne e, delG_ne e]
theorem ev_del {G G' : Gh} {al al' : List Addr} {a : Addr} (e : Ev G al G' al') : Ev (delG G a) al (delG G' a) al' := by
  refine ⟨fun b o h => ?_, fun b o h => ?_, e.al⟩
  · by_cases hb : b = a
    · subst hb; rw [delG_same] at h; cases h
    · rw [delG_ne hb] at h ⊢; exact e.frz b o h
  · by_cases hb : b = a
    · subst hb; rw [delG_same] at h; cases h
    · rw [delG_ne hb] at h ⊢; exact e.frm b o h
theorem zof_del {G : Gh} {a : Addr} {o : HO} (h : G a = some (.frm, o)) : Zof (delG G a) = Zof G := by
  funext b
  unfold Zof
  by_cases e : b = a
  · subst e; rw [delG_same, h]
  · rw [delG_ne e]
/-- seen through what is built, the frozen part goes on -/
theorem evz_of {G G' : Gh} {al al' : List Addr} {a : Addr} {o : HO} (h : G a = some (.frm, o)) (e : Ev (delG G a) al (delG G' a) al') : EvZ G al G' al' := by
  refine ⟨fun b u hb => ?_, e.al⟩
  have ne : b ≠ a := by intro z; subst z; rw [h] at hb; cases hb
  have := e.frz b u (by rw [delG_ne ne]; exact hb)
  rw [delG_ne ne] at this
  exact this
section
variable {cls : Nat → Addr} {own : Nat → Bool} {K : KX} {tg : Tg} {ft : Den Bool} {fe : Den D} {vs : List Nat}
/-- the inner loop: D0 grows by what comes -/
theorem inner_of (hsub : ∀ j ∈ tgSlots tg, j ∈ vs) {G1 : Gh} {al1 : List Addr} {m1 m9 : MS} {σ : St} {H1 : Hp} {J : It} {ds zs accD : List D} {acc : List V} {D0 : Addr} {Nx : Hp → Prop} (r1 : Rst K cls own G1 al1 m1 σ H1) (wk : WalkD K cls own J ds G1 al1) (g1 : G1 D0 = some (.frm, .lst acc))
    (c1 : DVs K (Zof G1) al1 acc accD) (e1 : lcLoop vs tg ft fe ds m1 = .ok zs m9) (hN : accD.length + zs.length ≤ sizeLine)
    (k : ∀ G' al' acc' H', Ev (delG G1 D0) al1 (delG G' D0) al' → Rst K cls own G' al' { m9 with sl := wipeM m9.sl vs } (wipe σ vs) H' → G' D0 = some (.frm, .lst acc') → DVs K (Zof G') al' acc' (accD ++ zs) → Nx H') :
    ∃ W1 : Nat → Nat → Hp → Prop, (∃ m, W1 0 m H1) ∧ ∀ j n H, W1 j n H →
      (J.stop j H ∧ Nx H) ∨ (J.go j H ∧ ∃ Nx1 : Hp → Prop, (∀ H', Nx1 H' → ∃ k', k' < n ∧ W1 (j + 1) k' H') ∧ ∀ x H', J.yld j H x H' → tG K cls own tg x (wipe σ vs) H' fun σ3 H5 => wipe σ3 vs = wipe σ vs ∧ tDb K cls own ft σ3 H5 fun b H6 =>
        if b = true then tD K cls own fe σ3 H6 fun y H7 => ∃ acc, H7 D0 = some (.lst acc) ∧ acc.length < sizeLine ∧ Nx1 (upd H7 D0 (.lst (acc ++ [y]))) else Nx1 H6) := by
  let W : Nat → Nat → Hp → Prop := fun i n H => n = ds.length - i ∧ i ≤ ds.length ∧ ∃ G2 al2 m2 acc2 aD ys, Ev (delG G1 D0) al1 (delG G2 D0) al2 ∧ Rst K cls own G2 al2 { m2 with sl := wipeM m2.sl vs } (wipe σ vs) H ∧ G2 D0 = some (.frm, .lst acc2) ∧
    DVs K (Zof G2) al2 acc2 aD ∧ lcLoop vs tg ft fe (ds.drop i) m2 = .ok ys m9 ∧ aD ++ ys = accD ++ zs
  refine ⟨W, ⟨ds.length, rfl, Nat.zero_le _, G1, al1, m1, acc, accD, zs, .refl, r1.wipe, g1, c1, e1, rfl⟩, ?_⟩
  rintro i n H2 ⟨rfl, hi, G2, al2, m2, acc2, aD, ys, ev2, r2, g2, c2, e2, ez⟩
  have evG : EvZ G1 al1 G2 al2 := evz_of g1 ev2
  by_cases hlt : i < ds.length
  · refine .inr ⟨wk.goes G2 al2 _ _ H2 i evG r2 hlt, W (i + 1) (ds.length - (i + 1)), fun H3 q3 => ⟨_, by omega, q3⟩, fun x H3 y => ?_⟩
    have hd : ds[i]? = some ds[i] := List.getElem?_eq_getElem hlt
    obtain ⟨G3, ev3, r3, dv, keep3⟩ := wk.yields G2 al2 _ _ H2 i x H3 _ evG r2 hd y
    have g3 : G3 D0 = some (.frm, .lst acc2) := ev3.frm _ _ g2
    rw [List.drop_eq_getElem_cons hlt, lcLoop] at e2
    dsimp only at e2
    split at e2
    · cases e2
    · next sl e3 =>
      refine ⟨G3, al2, _, _, sl, r3, dv, e3, fun σ4 r4 b4 => ⟨wipe_eq hsub b4, ?_⟩⟩
      have weq : wipe σ4 vs = wipe σ vs := wipe_eq (σ := σ) hsub b4
      split at e2
      · next m5 e5 =>
        refine ⟨G3, al2, _, true, m5, r4, e5, fun G5 al5 H5 ev5 r5 => iteT' ?_⟩
        split at e2
        · next y5 m6 e6 =>
          split at e2
          · next ys6 m7 e7 =>
            cases e2
            refine ⟨G5, al5, m5, y5, m6, r5, e6, fun G6 al6 v6 H6 ev6 r6 dv6 => ?_⟩
            have g6 : G6 D0 = some (.frm, .lst acc2) := ev6.frm _ _ (ev5.frm _ _ g3)
            have evs : Ev G2 al2 G6 al6 := ev3.trans (ev5.trans ev6)
            have c6 : DVs K (Zof G6) al6 acc2 aD := c2.ev evs
            have hlen : acc2.length < sizeLine := by
              have h1 := c2.length
              have h3 := congrArg List.length ez
              simp only [List.length_append, List.length_cons] at h3
              omega
            obtain ⟨_, r7, hz7⟩ := r6.reframe (o' := .lst (acc2 ++ [v6])) g6
            refine ⟨acc2, r6.hst.gh _ _ _ g6, hlen, rfl, hlt, putG G6 D0 .frm (.lst (acc2 ++ [v6])), al6, m6, acc2 ++ [v6], aD ++ [y5], ys6, ?_, ?_, putG_same, ?_, e7, by rw [← ez]; simp⟩
            · rw [del_put]; exact ev2.trans (ev_del evs)
            · have := r7.wipe (vs := vs)
              rw [weq] at this
              exact this
            · rw [hz7]; exact c6.append (.cons dv6 .nil)
          · cases e2
        · cases e2
      · next m5 e5 =>
        refine ⟨G3, al2, _, false, m5, r4, e5, fun G5 al5 H5 ev5 r5 => iteF' ?_⟩
        have evs : Ev G2 al2 G5 al5 := ev3.trans ev5
        refine ⟨rfl, hlt, G5, al5, m5, acc2, aD, ys, ev2.trans (ev_del evs), ?_, ev5.frm _ _ g3, c2.ev evs, e2, ez⟩
        have := r5.wipe (vs := vs)
        rw [weq] at this
        exact this
      · cases e2
  · have en : i = ds.length := by omega
    subst en
    rw [List.drop_length] at e2
    cases e2
    have ez : aD = accD ++ zs := by rw [← ez]; simp
    subst ez
    exact .inl ⟨wk.stops G2 al2 _ _ H2 evG r2, k G2 al2 acc2 H2 ev2 r2 g2 c2⟩
end

def lcLoop2 (vs : List Nat) (tg : Tg) (tt : Den Bool) (src1 : Den (List D)) (inner : List D → Den (List D)) : List D → Den (List D)
  | [] => .ret []
  | d :: ds => fun m => match tgSet tg d (wipeM m.sl vs) with
    | none => .bad
    | some sl => match tt { m with sl := sl } with
      | .ok true m2 => match src1 m2 with
        | .ok ds1 m3 => match inner ds1 m3 with
          | .ok ys m4 => match lcLoop2 vs tg tt src1 inner ds m4 with
            | .ok zs m5 => .ok (ys ++ zs) m5
            | .bad => .bad
          | .bad => .bad
        | .bad => .bad
      | .ok false m2 => lcLoop2 vs tg tt src1 inner ds m2
      | .bad => .bad
def eLc2 (src : Den (List D)) (vs : List Nat) (tg : Tg) (tt : Den Bool) (src1 : Den (List D)) (vs1 : List Nat) (tg1 : Tg) (tt1 : Den Bool) (te : Den D) : Den D := src.bind fun ds => fun m => match lcLoop2 vs tg tt src1 (lcLoop vs1 tg1 tt1 te) ds m with
  | .ok ys m' => if fitL ys.length then .ok (.lst ys) { m' with sl := backM m.sl m'.sl vs } else .bad
  | .bad => .bad
section
variable {cls : Nat → Addr} {own : Nat → Bool} {K : KX} {src src1 : Den (List D)} {tg tg1 : Tg} {ft ft1 : Den Bool} {fe : Den D} {vs vs1 : List Nat}
theorem tLc2_of (hv : ∀ i ∈ vs, own i = false) (hsub : ∀ j ∈ tgSlots tg, j ∈ vs) (hsub1 : ∀ j ∈ tgSlots tg1, j ∈ vs1) (hv1 : ∀ j ∈ vs1, j ∈ vs) {σ : St} {H : Hp} {Q : VK} (q : tF K cls own (eLc2 src vs tg ft src1 vs1 tg1 ft1 fe) σ H Q) :
    tLc2 (tI K cls own src) (tG K cls own tg) (tDb K cls own ft) (tI K cls own src1) (tG K cls own tg1) (tDb K cls own ft1) (tD K cls own fe) vs vs1 σ H Q := by
  obtain ⟨G, al, m, d, m', r, e, k⟩ := q
  obtain ⟨ds, m1, e1, e⟩ := bind_ok e
  split at e
  case h_2 => cases e
  next ys m9 e9 =>
  split at e
  case isFalse => cases e
  next hfit =>
  cases e
  refine ⟨G, al, m, ds, m1, r, e1, fun G1 al1 H1 J ev1 r1 wk D0 hD => ?_⟩
  have hn : G1 D0 = none := r1.hst.nog hD
  let W : Nat → Nat → Hp → Prop := fun i n H => n = ds.length - i ∧ i ≤ ds.length ∧ ∃ G2 al2 m2 acc accD zs, Ev G1 al1 (delG G2 D0) al2 ∧ Rst K cls own G2 al2 { m2 with sl := wipeM m2.sl vs } (wipe σ vs) H ∧ G2 D0 = some (.frm, .lst acc) ∧
    DVs K (Zof G2) al2 acc accD ∧ lcLoop2 vs tg ft src1 (lcLoop vs1 tg1 ft1 fe) (ds.drop i) m2 = .ok zs m9 ∧ accD ++ zs = ys
  have hdel : delG (putG G1 D0 .frm (.lst [])) D0 = G1 := by
    funext b
    by_cases e : b = D0
    · subst e; rw [delG_same, hn]
    · rw [delG_ne e, putG_ne e]
  refine ⟨W, ⟨ds.length, rfl, Nat.zero_le _, putG G1 D0 .frm (.lst []), al1, m1, [], [], ys, by rw [hdel]; exact .refl, ((r1.wipe (vs := vs)).fresh hD).tag hn upd_same, putG_same, .nil, e9, rfl⟩, ?_⟩
  rintro i n H2 ⟨rfl, hi, G2, al2, m2, acc, accD, zs, ev2, r2, g2, c2, e2, ez⟩
  have evG : EvZ G1 al1 G2 al2 := by
    refine ⟨fun b u hb => ?_, ev2.al⟩
    have ne : b ≠ D0 := by intro z; subst z; rw [hn] at hb; cases hb
    have := ev2.frz b u hb
    rw [delG_ne ne] at this
    exact this
  by_cases hlt : i < ds.length
  · refine .inr ⟨wk.goes G2 al2 _ _ H2 i evG r2 hlt, W (i + 1) (ds.length - (i + 1)), fun H3 q3 => ⟨_, by omega, q3⟩, fun x H3 y => ?_⟩
    have hd : ds[i]? = some ds[i] := List.getElem?_eq_getElem hlt
    obtain ⟨G3, ev3, r3, dv, keep3⟩ := wk.yields G2 al2 _ _ H2 i x H3 _ evG r2 hd y
    have g3 : G3 D0 = some (.frm, .lst acc) := ev3.frm _ _ g2
    rw [List.drop_eq_getElem_cons hlt, lcLoop2] at e2
    dsimp only at e2
    split at e2
    · cases e2
    · next sl e3 =>
      refine ⟨G3, al2, _, _, sl, r3, dv, e3, fun σ4 r4 b4 => ⟨wipe_eq hsub b4, ?_⟩⟩
      have weq : wipe σ4 vs = wipe σ vs := wipe_eq (σ := σ) hsub b4
      split at e2
      · next m5 e5 =>
        refine ⟨G3, al2, _, true, m5, r4, e5, fun G5 al5 H5 ev5 r5 => iteT' ?_⟩
        split at e2
        · next ds1 m6 e6 =>
          split at e2
          · next ys6 m7 e7 =>
            split at e2
            · next zs8 m8 e8 =>
              cases e2
              refine ⟨G5, al5, m5, ds1, m6, r5, e6, fun G6 al6 H6 J1 ev6 r6 wk1 => ?_⟩
              have evs : Ev G2 al2 G6 al6 := ev3.trans (ev5.trans ev6)
              have g6 : G6 D0 = some (.frm, .lst acc) := evs.frm _ _ g2
              have hl : accD.length + ys6.length ≤ sizeLine := by
                have h2 : ys.length ≤ sizeLine := fitL_le hfit
                have h3 := congrArg List.length ez
                simp only [List.length_append] at h3
                omega
              refine inner_of hsub1 r6 wk1 g6 (c2.ev evs) e7 hl fun G7 al7 acc7 H7 ev7 r7 g7 c7 => ?_
              refine ⟨rfl, hlt, G7, al7, m7, acc7, accD ++ ys6, zs8, ev2.trans ((ev_del evs).trans ev7), ?_, g7, c7, e8, by rw [← ez]; simp⟩
              have := r7.wipe (vs := vs)
              rw [wipe_sub hv1, weq] at this
              have e0 : wipeM (wipeM m7.sl vs1) vs = wipeM m7.sl vs := wipeM_sub hv1
              simp only [e0] at this
              exact this
            · cases e2
          · cases e2
        · cases e2
      · next m5 e5 =>
        refine ⟨G3, al2, _, false, m5, r4, e5, fun G5 al5 H5 ev5 r5 => iteF' ?_⟩
        have evs : Ev G2 al2 G5 al5 := ev3.trans ev5
        refine ⟨rfl, hlt, G5, al5, m5, acc, accD, zs, ev2.trans (ev_del evs), ?_, ev5.frm _ _ g3, c2.ev evs, e2, ez⟩
        have := r5.wipe (vs := vs)
        rw [weq] at this
        exact this
      · cases e2
  · have en : i = ds.length := by omega
    subst en
    rw [List.drop_length] at e2
    cases e2
    have ez : accD = ys := by rw [← ez]; simp
    subst ez
    refine .inl ⟨wk.stops G2 al2 _ _ H2 evG r2, ?_⟩
    obtain ⟨r3, hz3⟩ := r2.unframe g2
    have rb := r1.back ev2 r3 hv
    exact k (delG G2 D0) al2 D0 (.lst acc) H2 (ev1.trans ev2) rb (r2.hst.gh _ _ _ g2) delG_same (by rw [hz3]; exact c2)
end
section
variable {cls : Nat → Addr} {own : Nat → Bool} {X : Cx} {elt te iter te1 iter1 : Expr} {ifs ifs1 : List Expr} {scope : Scope} {ow : List (Str × Nat)} {vs1 : List Nat} {pos py spos : Pos} {src src1 : Den (List D)} {tg tg1 : Tg} {ft ft1 : Den Bool} {fe : Den D} {i : Nat} {y : Str}
theorem sf_lc2 (hc : X.calm = true) (hN : X.N.Nodup) (hi : SI cls own X te iter src) (ok : BlkOk X.N X.env.scope scope ow) (hv1 : ∀ i ∈ vs1, i ∈ ow.map (·.2))
    (hg : ∀ (s : Shared) (H : Hp) (C : Addr) (cl : List (Str × Addr)) (fp : List Addr), SG cls own (X.blk s H scope (compEnvC scope cl C X.env) fp) te tg)
    (ht : ∀ (s : Shared) (H : Hp) (C : Addr) (cl : List (Str × Addr)) (fp : List Addr), SBs cls own (X.blk s H scope (compEnvC scope cl C X.env) fp) ifs ft)
    (hi1 : ∀ (s : Shared) (H : Hp) (C : Addr) (cl : List (Str × Addr)) (fp : List Addr), SI cls own (X.blk s H scope (compEnvC scope cl C X.env) fp) te1 iter1 src1)
    (hg1 : ∀ (s : Shared) (H : Hp) (C : Addr) (cl : List (Str × Addr)) (fp : List Addr), SG cls own (X.blk s H scope (compEnvC scope cl C X.env) fp) te1 tg1)
    (ht1 : ∀ (s : Shared) (H : Hp) (C : Addr) (cl : List (Str × Addr)) (fp : List Addr), SBs cls own (X.blk s H scope (compEnvC scope cl C X.env) fp) ifs1 ft1)
    (he : ∀ (s : Shared) (H : Hp) (C : Addr) (cl : List (Str × Addr)) (fp : List Addr), SE cls own (X.blk s H scope (compEnvC scope cl C X.env) fp) elt fe)
    (hv : ∀ i ∈ ow.map (·.2), own i = false) (hsub : ∀ j ∈ tgSlots tg, j ∈ ow.map (·.2)) (hsub1 : ∀ j ∈ tgSlots tg1, j ∈ vs1) (hs : ∀ x, foldedSetIterable iter X.env x = pure x := by intro _; rfl) (hs1 : ∀ env x, foldedSetIterable iter1 env x = pure x := by intro _ _; rfl) :
    SF cls own X (.ListComp elt [⟨te, iter, ifs, 0⟩, ⟨te1, iter1, ifs1, 0⟩] scope pos) (eLc2 src (ow.map (·.2)) tg ft src1 vs1 tg1 ft1 fe) :=
  pe_imp (pe_lc2 (own := ow) (vs1 := vs1) (g := tG X.kx cls own tg) (tt := tDb X.kx cls own ft) (wi1 := tI X.kx cls own src1) (g1 := tG X.kx cls own tg1) (tt1 := tDb X.kx cls own ft1) (te := tD X.kx cls own fe) hc hN hi ok hv1 hg ht hi1 hg1 ht1 he hs hs1) fun _ _ _ q => tLc2_of hv hsub hsub1 hv1 q
theorem ss_setLc2 (ho : own i = false) (hc : X.calm = true) (hN : X.N.Nodup) (hy : X.N[i]? = some y) (hyl : X.env.scope.names.lookup y = some .local)
    (hsw : swapsWith (.ListComp elt [⟨te, iter, ifs, 0⟩, ⟨te1, iter1, ifs1, 0⟩] scope pos) (some (.Name y py)) spos.line X.env = pure true) (hi : SI cls own X te iter src) (ok : BlkOk X.N X.env.scope scope ow) (hv1 : ∀ i ∈ vs1, i ∈ ow.map (·.2))
    (hg : ∀ (s : Shared) (H : Hp) (C : Addr) (cl : List (Str × Addr)) (fp : List Addr), SG cls own (X.blk s H scope (compEnvC scope cl C X.env) fp) te tg)
    (ht : ∀ (s : Shared) (H : Hp) (C : Addr) (cl : List (Str × Addr)) (fp : List Addr), SBs cls own (X.blk s H scope (compEnvC scope cl C X.env) fp) ifs ft)
    (hi1 : ∀ (s : Shared) (H : Hp) (C : Addr) (cl : List (Str × Addr)) (fp : List Addr), SI cls own (X.blk s H scope (compEnvC scope cl C X.env) fp) te1 iter1 src1)
    (hg1 : ∀ (s : Shared) (H : Hp) (C : Addr) (cl : List (Str × Addr)) (fp : List Addr), SG cls own (X.blk s H scope (compEnvC scope cl C X.env) fp) te1 tg1)
    (ht1 : ∀ (s : Shared) (H : Hp) (C : Addr) (cl : List (Str × Addr)) (fp : List Addr), SBs cls own (X.blk s H scope (compEnvC scope cl C X.env) fp) ifs1 ft1)
    (he : ∀ (s : Shared) (H : Hp) (C : Addr) (cl : List (Str × Addr)) (fp : List Addr), SE cls own (X.blk s H scope (compEnvC scope cl C X.env) fp) elt fe)
    (hv : ∀ i ∈ ow.map (·.2), own i = false) (hsub : ∀ j ∈ tgSlots tg, j ∈ ow.map (·.2)) (hsub1 : ∀ j ∈ tgSlots tg1, j ∈ vs1) (hs : ∀ x, foldedSetIterable iter X.env x = pure x := by intro _; rfl) (hs1 : ∀ env x, foldedSetIterable iter1 env x = pure x := by intro _ _; rfl) :
    SS cls own X (.Assign [.Name y py] (.ListComp elt [⟨te, iter, ifs, 0⟩, ⟨te1, iter1, ifs1, 0⟩] scope pos) spos) (sSet i (eLc2 src (ow.map (·.2)) tg ft src1 vs1 tg1 ft1 fe)) := by
  refine ps_imp (ps_setLc2 (own := ow) (vs1 := vs1) (g := tG X.kx cls own tg) (tt := tDb X.kx cls own ft) (wi1 := tI X.kx cls own src1) (g1 := tG X.kx cls own tg1) (tt1 := tDb X.kx cls own ft1) (te := tD X.kx cls own fe) hc hN hy hyl hsw hi ok hv1 hg ht hi1 hg1 ht1 he hs hs1) fun E σ H q => ?_
  obtain ⟨G, al, m, fl, m', r, e, k⟩ := q
  obtain ⟨d, m1, e1, e⟩ := bind_ok e
  cases e
  refine tLc2_of hv hsub hsub1 hv1 ⟨G, al, m, d, m1, r, e1, fun G1 al1 p o H1 ev1 r1 hp hn c => ?_⟩
  have ev2 : Ev G1 al1 (putG G1 p .frz o) al1 := ev_put hn
  exact k _ al1 _ H1 (ev1.trans ev2) ((r1.tag hn hp).set (CO.frz (zof_of putG_same) (c.mono ev2.same ev2.al)) ho)
end
end MI

namespace MI
open PySem PySem.Spec L2

/-! ### how the parameters are filled -/
inductive Src where
  | p (i : Nat) | k (i : Nat) | d (i : Nat)
def arr {α : Type} (sp : List Src) (us mv ws : List α) : List α := sp.filterMap fun s => match s with
  | .p i => us[i]?
  | .k i => ws[i]?
  | .d i => mv[i]?
theorem arr_vals {sp : List Src} {vs mz zs : List V} {us mv ws : List Value} (h1 : Vals vs us) (h2 : Vals mz mv) (h3 : Vals zs ws) : Vals (arr sp vs mz zs) (arr sp us mv ws) := by
  have one : ∀ {xs : List V} {ys : List Value} (i : Nat), Vals xs ys → (∃ x y, xs[i]? = some x ∧ ys[i]? = some y ∧ RelV x y) ∨ (xs[i]? = none ∧ ys[i]? = none) := by
    intro xs ys i h
    cases q : xs[i]? with
    | none => exact .inr ⟨rfl, h.none_of q⟩
    | some x => obtain ⟨u, e, r⟩ := h.get q; exact .inl ⟨x, u, rfl, e, r⟩
  unfold arr
  induction sp with
  | nil => exact .nil
  | cons s sp ih =>
    rw [List.filterMap_cons, List.filterMap_cons]
    cases s with
    | p i =>
      rcases one i h1 with ⟨x, y, e1, e2, r⟩ | ⟨e1, e2⟩
      · simp only [e1, e2]; exact .cons r ih
      · simp only [e1, e2]; exact ih
    | k i =>
      rcases one i h3 with ⟨x, y, e1, e2, r⟩ | ⟨e1, e2⟩
      · simp only [e1, e2]; exact .cons r ih
      · simp only [e1, e2]; exact ih
    | d i =>
      rcases one i h2 with ⟨x, y, e1, e2, r⟩ | ⟨e1, e2⟩
      · simp only [e1, e2]; exact .cons r ih
      · simp only [e1, e2]; exact ih
theorem arr_dvs {K : KX} {Z : Hp} {al : List Addr} {sp : List Src} {vs mz zs : List V} {us mv ws : List D} (h1 : DVs K Z al vs us) (h2 : DVs K Z al mz mv) (h3 : DVs K Z al zs ws) : DVs K Z al (arr sp vs mz zs) (arr sp us mv ws) := by
  have one : ∀ {xs : List V} {ys : List D} (i : Nat), DVs K Z al xs ys → (∃ x y, xs[i]? = some x ∧ ys[i]? = some y ∧ DV K Z al x y) ∨ (xs[i]? = none ∧ ys[i]? = none) := by
    intro xs ys i h
    cases q : xs[i]? with
    | none =>
      have h0 := h.length
      have h1 : xs.length ≤ i := List.getElem?_eq_none_iff.mp q
      exact .inr ⟨rfl, List.getElem?_eq_none_iff.mpr (by omega)⟩
    | some x => obtain ⟨u, e, r⟩ := h.getV q; exact .inl ⟨x, u, rfl, e, r⟩
  unfold arr
  induction sp with
  | nil => exact .nil
  | cons s sp ih =>
    rw [List.filterMap_cons, List.filterMap_cons]
    cases s with
    | p i =>
      rcases one i h1 with ⟨x, y, e1, e2, r⟩ | ⟨e1, e2⟩
      · simp only [e1, e2]; exact .cons r ih
      · simp only [e1, e2]; exact ih
    | k i =>
      rcases one i h3 with ⟨x, y, e1, e2, r⟩ | ⟨e1, e2⟩
      · simp only [e1, e2]; exact .cons r ih
      · simp only [e1, e2]; exact ih
    | d i =>
      rcases one i h2 with ⟨x, y, e1, e2, r⟩ | ⟨e1, e2⟩
      · simp only [e1, e2]; exact .cons r ih
      · simp only [e1, e2]; exact ih
section
variable {K : PySem.W.Frag} {x qual : Str} {params : Arguments} {body : List Stmt} {scope : Scope} {dvs : List V} {kws : List (Str × V)} {f : Addr} {fd : FuncData} {ps : List Str}
/-- a def without defaults, called with keywords -/
theorem kb_plain (F : FunD K x qual params body scope [] [] f fd) (n : Nat) (ks : List Str) (sp : List Src)
    (h : ∀ (kV doc pm : Value) (an : Option Addr) (cdv ct : Value) (us ws : List Value), us.length = n → ws.length = ks.length → bindArgs (PySem.W.fnOf x qual params body scope .none kV doc pm an cdv ct) ⟨us, ks.zip ws⟩ = pure (ps.zip (arr sp us [] ws))) :
    KBn K fd ps n ks (fun us ws => arr sp us [] ws) (fun vs zs => arr sp vs [] zs) := by
  obtain ⟨oc, od, dV, kV, doc, pm, an, cdv, ct, osl, rfl, lk, hcd, hD, hK⟩ := F.ex
  rcases hD with ⟨_, rfl⟩ | ⟨e, _⟩
  · exact ⟨fun s us ws X l1 l2 => .of_eq (h kV doc pm an cdv ct us ws l1 l2), fun r1 r2 => arr_vals r1 .nil r2⟩
  · exact absurd rfl e
/-- keyword-only defaults ms are lacking -/
theorem kb_only (F : FunD K x qual params body scope [] kws f fd) (n : Nat) (ks : List Str) (ms : List (Str × V)) (sp : List Src) (hk : kws ≠ []) (hms : ∀ q ∈ ms, q ∈ kws)
    (h : ∀ (D : Addr) (doc pm : Value) (an : Option Addr) (cdv ct : Value) (us mv ws : List Value), us.length = n → mv.length = ms.length → ws.length = ks.length →
      KwChain D ((ms.map (·.1)).zip mv) (bindArgs (PySem.W.fnOf x qual params body scope .none (.ref D) doc pm an cdv ct) ⟨us, ks.zip ws⟩) (ps.zip (arr sp us mv ws))) :
    ∃ mv : List Value, KBn K fd ps n ks (fun us ws => arr sp us mv ws) (fun vs zs => arr sp vs (ms.map (·.2)) zs) :=
  FunD.kbinds0 F n ks ms (fun us mv ws => arr sp us mv ws) hk hms (fun h1 h2 h3 => arr_vals h1 h2 h3) h
/-- defaults from the j-th on are lacking -/
theorem kb_dflt (F : FunD K x qual params body scope dvs [] f fd) (n : Nat) (ks : List Str) (sp : List Src) (hd : dvs ≠ [])
    (h : ∀ (T : Addr) (kV doc pm : Value) (an : Option Addr) (cdv ct : Value) (us its ws : List Value), us.length = n → its.length = dvs.length → ws.length = ks.length →
      ∃ k, bindArgs (PySem.W.fnOf x qual params body scope (.ref T) kV doc pm an cdv ct) ⟨us, ks.zip ws⟩ = seqItems? (.ref T) >>= k ∧ k (some its.toArray) = pure (ps.zip (arr sp us its ws))) :
    ∃ mv : List Value, KBn K fd ps n ks (fun us ws => arr sp us mv ws) (fun vs zs => arr sp vs dvs zs) := by
  obtain ⟨oc, od, dV, kV, doc, pm, an, cdv, ct, osl, rfl, lk, hcd, hD, hK⟩ := F.ex
  rcases hD with ⟨e, _⟩ | ⟨_, T, o, its, m, rfl, lT, oT, rT⟩
  · exact absurd e hd
  · refine ⟨its, ⟨fun s us ws X l1 l2 => ?_, fun r1 r2 => arr_vals r1 rT r2⟩⟩
    obtain ⟨k, e1, e2⟩ := h T kV doc pm an cdv ct us its ws l1 rT.length.symm l2
    refine BindsTo.of_looks fun M => ?_
    rw [e1]
    exact looks_items X lT oT (.of_pure e2)
end
abbrev SKs (cls : Nat → Addr) (own : Nat → Bool) (X : Cx) (ks : List Keyword) (f : Den (List Hd)) : Prop := PK X ks (tHs X.kx cls own f)
theorem pk_imp {X : Cx} {e : List Keyword} {t t' : TA} (h : PK X e t) (i : ∀ σ H Q, t' σ H Q → t σ H Q) : PK X e t' := ⟨fun pos pins s σ H Q I q => h.run pos pins s σ H Q I (i σ H Q q)⟩
def eCallK (fn : Fn) (sp : List Src) (dd : List D) (fs fk : Den (List D)) : Den D := fs.bind fun ds => fk.bind fun es => fun m => match fn (arr sp ds dd es) m.st with
  | some (d, st) => .ok d { m with st := st }
  | none => .bad
theorem hvs_len {K : KX} {own : Nat → Bool} {G : Gh} {al : List Addr} {σ : St} : ∀ {vs : List V} {hs : List Hd}, HVs K own G al σ vs hs → vs.length = hs.length
  | _, _, .nil => rfl
  | _, _, .cons _ r => by rw [List.length_cons, List.length_cons, hvs_len r]
section
variable {cls : Nat → Addr} {own : Nat → Bool} {X : Cx} {k n : Nat} {f : Addr} {fd : FuncData} {ps ks : List Str} {fn : Fn} {x : Str} {p pos kpos : Pos} {e : Expr} {es : List Expr} {fs fk : Den (List Hd)} {kws : List Keyword} {sp : List Src} {dvs : List V} {dds : List D} {mv : List Value} {nm : Option Str} {fe : Den Hd}
theorem sk_nil : SKs cls own X [] aNil := pk_imp pk_nil fun σ H Q ⟨G, al, m, d, m', r, e, k⟩ => by cases e; exact k G al _ H .refl r .nil
theorem sk_cons (h : SH cls own X e fe) (hr : SKs cls own X kws fk) : SKs cls own X (⟨nm, e, kpos⟩ :: kws) (aCons fe fk) := by
  refine pk_imp (pk_cons h hr) fun σ H Q q => ?_
  obtain ⟨G, al, m, d, m', r, e, k⟩ := q
  obtain ⟨d0, m1, e1, e2⟩ := bind_ok e
  obtain ⟨ds, m2, e3, e4⟩ := bind_ok e2
  cases e4
  refine ⟨G, al, m, d0, m1, r, e1, fun G' al' v H' ev r' hv => ?_⟩
  exact ⟨G', al', m1, ds, _, r', e3, fun G2 al2 vs H2 ev2 r2 hvs => k G2 al2 _ H2 (ev.trans ev2) r2 (.cons (hv.ev ev2) hvs)⟩
theorem aNil_len {m m' : MS} {hs : List Hd} (h : aNil m = .ok hs m') : hs.length = 0 := by cases h; rfl
theorem aCons_len {f : Den Hd} {r : Den (List Hd)} {j : Nat} (hr : ∀ m hs m', r m = .ok hs m' → hs.length = j) {m m' : MS} {hs : List Hd} (h : aCons f r m = .ok hs m') : hs.length = j + 1 := by
  obtain ⟨d0, m1, e1, e2⟩ := bind_ok h
  obtain ⟨ds, m2, e3, e4⟩ := bind_ok e2
  cases e4
  rw [List.length_cons, hr _ _ _ e3]
/-- what a call with keywords needs of the two lists -/
theorem callK_core {np : Nat} (hnp : ∀ vs zs : List V, vs.length = n → zs.length = ks.length → (arr sp vs dvs zs).length = np) (hdd : DVs X.kx (fun _ => none) [] dvs dds) (hl1 : ∀ m hs m', fs m = .ok hs m' → hs.length = n) (hl2 : ∀ m hs m', fk m = .ok hs m' → hs.length = ks.length)
    {σ : St} {H : Hp} {Q : VK} (q : tD X.kx cls own (eCallK fn sp dds (aVals fs) (aVals fk)) σ H Q) :
    tHs X.kx cls own fs σ H fun vs H1 => tHs X.kx cls own fk σ H1 fun zs H2 => vs.length = n ∧ zs.length = ks.length ∧ SpD X.kx cls np fn (arr sp vs dvs zs) H2 Q L2.E0 := by
  obtain ⟨G, al, m, d, m', r, e, k⟩ := q
  obtain ⟨as, m1, e1, e⟩ := bind_ok e
  obtain ⟨bs, m2, e2, e⟩ := bind_ok e
  obtain ⟨hs, e1, l1⟩ := aVals_ok e1
  obtain ⟨gs, e2, l2⟩ := aVals_ok e2
  split at e
  · next d0 st0 e3 =>
    cases e
    refine ⟨G, al, m, hs, m1, r, e1, fun G1 al1 vs H1 ev1 r1 hv1 => ⟨G1, al1, m1, gs, m2, r1, e2, fun G2 al2 zs H2 ev2 r2 hv2 => ?_⟩⟩
    have n1 : vs.length = n := (hvs_len hv1).trans (hl1 _ _ _ e1)
    have n2 : zs.length = ks.length := (hvs_len hv2).trans (hl2 _ _ _ e2)
    have d1 := looksV_dv (hv1.ev ev2) l1
    have d2 := looksV_dv hv2 l2
    have hdd' : DVs X.kx (Zof G2) al2 dvs dds := hdd.mono (fun a o (z : (none : Option HO) = some o) => nomatch z) (List.nil_prefix)
    exact ⟨n1, n2, call_core (t := tNil) (E := L2.E0) (hnp vs zs n1 n2) r2 (arr_dvs d1 hdd' d2) e3 fun G' al' v H' ev r' dvv => k G' al' v H' ((ev1.trans ev2).trans ev) r' dvv⟩
  · cases e
theorem se_callK {np : Nat} (F : FnOk X.prog X.w X.K X.mg X.base CX0 k f fd ps (SpD X.kx cls np fn)) (hr : Room k X.A) (hg : Gl X x) (hm : X.mg x = some (.ref f)) (hk : PySem.W.keepIn X.K (.ref f) = true) (hb : KBn X.K fd ps n ks (fun us ws => arr sp us mv ws) (fun vs zs => arr sp vs dvs zs))
    (hdd : DVs X.kx (fun _ => none) [] dvs dds) (ha : SHs cls own X (e :: es) fs) (hkw : SKs cls own X kws fk) (hnp : ∀ vs zs : List V, vs.length = n → zs.length = ks.length → (arr sp vs dvs zs).length = np) (hl1 : ∀ m hs m', fs m = .ok hs m' → hs.length = n) (hl2 : ∀ m hs m', fk m = .ok hs m' → hs.length = ks.length)
    (hall : (backToKw pos (keywordEach kws X.env)).all (·.1.isSome) = true := by rfl) (hks : (backToKw pos (keywordEach kws X.env)).filterMap (·.1) = ks := by rfl)
    (hdb : (x == ("__debug__" : Str)) = false := by decide) (he : starEach (e :: es) X.env = (false, eval e X.env) :: starEach es X.env := by rfl)
    (hpl : ((backTo pos (starEach (e :: es) X.env)).any (·.1) || (backToKw pos (keywordEach kws X.env)).any (·.1.isNone)) = false := by rfl) :
    SE cls own X (.Call (.Name x p) (e :: es) kws pos) (eCallK fn sp dds (aVals fs) (aVals fk)) :=
  pe_imp (pe_callN F hr hg hm hk hb (pass0 (X := X)) ha hkw hall hks hdb he hpl) fun σ H Q q => callK_core hnp hdd hl1 hl2 q
theorem se_callK0 {np : Nat} (F : FnOk X.prog X.w X.K X.mg X.base CX0 k f fd ps (SpD X.kx cls np fn)) (hr : Room k X.A) (hg : Gl X x) (hm : X.mg x = some (.ref f)) (hk : PySem.W.keepIn X.K (.ref f) = true) (hb : KBn X.K fd ps 0 ks (fun us ws => arr sp us mv ws) (fun vs zs => arr sp vs dvs zs))
    (hdd : DVs X.kx (fun _ => none) [] dvs dds) (hkw : SKs cls own X kws fk) (hnp : ∀ vs zs : List V, vs.length = 0 → zs.length = ks.length → (arr sp vs dvs zs).length = np) (hl2 : ∀ m hs m', fk m = .ok hs m' → hs.length = ks.length)
    (hall : (backToKw pos (keywordEach kws X.env)).all (·.1.isSome) = true := by rfl) (hks : (backToKw pos (keywordEach kws X.env)).filterMap (·.1) = ks := by rfl)
    (hdb : (x == ("__debug__" : Str)) = false := by decide) (hpl : ((backTo pos (starEach [] X.env)).any (·.1) || (backToKw pos (keywordEach kws X.env)).any (·.1.isNone)) = false := by rfl) :
    SE cls own X (.Call (.Name x p) [] kws pos) (eCallK fn sp dds (aVals aNil) (aVals fk)) := by
  refine pe_imp (t := fun σ H Q => tHs X.kx cls own aNil σ H fun vs H1 => tHs X.kx cls own fk σ H1 fun zs H2 => vs.length = 0 ∧ zs.length = ks.length ∧ SpD X.kx cls np fn (arr sp vs dvs zs) H2 Q L2.E0) ⟨fun pins s σ H Q I h => ?_⟩ fun σ H Q q => callK_core hnp hdd (fun m hs m' h => aNil_len h) hl2 q
  obtain ⟨G, al, m, d, m', r, e, k0⟩ := h
  cases e
  have h1 := k0 G al [] H .refl r .nil
  refine wpAny_Call_Name_kw (ld_glob I hg hm ?_ hdb)
  refine PySem.W.callWith_KW0 (h₀ := X.base) I.ok.mod.kin hk hall (thn (hkw.run pos pins s σ H _ I h1) fun ws s2 ⟨zs, H2, I2, rz, l1, l2, q2⟩ => ⟨I2.kIn, ?_⟩) hpl
  rw [hks]
  exact run_fnN F hr hb (pass0 (X := X)) I2 .nil rz l1 l2 q2
end
end MI

namespace MI
open PySem PySem.Spec L2

/-! ### an owned slot is frozen for the rest of a block -/
def ownL (l : List Nat) : Nat → Bool := fun i => l.contains i
def sFrz (i : Nat) (f : Den Fl) : Den Fl := fun m => match f m with
  | .ok fl m' => .ok fl { m' with sl := m'.sl.set i none }
  | .bad => .bad
section
variable {K : KX} {cls : Nat → Addr} {own own' : Nat → Bool} {G : Gh} {al : List Addr} {m : MS} {σ : St} {H : Hp} {i : Nat}
theorem Rst.freeze (r : Rst K cls own G al m σ H) (h1 : own i = true) (h2 : own' i = false) (h3 : ∀ j, j ≠ i → own' j = own j) : ∃ G', Ev G al G' al ∧ Rst K cls own' G' al m σ H := by
  by_cases hd : ∃ d, m.sl[i]? = some (some d)
  · obtain ⟨d, hd⟩ := hd
    obtain ⟨a, o, s1, g1, c1⟩ := r.own i d hd h1
    have ne : ∀ {b t u}, G b = some (t, u) → t ≠ .slot i → b ≠ a := fun e h z => by subst z; rw [g1] at e; cases e; exact h rfl
    have ev : Ev G al (putG G a .frz o) al := ⟨fun b u e => by rw [putG_ne (ne e (by intro z; cases z))]; exact e, fun b u e => by rw [putG_ne (ne e (by intro z; cases z))]; exact e, List.prefix_refl _⟩
    refine ⟨_, ev, ⟨fun b t u e => ?_, r.hst.len, fun n ob e => ?_⟩, r.len, fun j e hj hoj => ?_, fun j e hj hoj => ?_⟩
    · by_cases hb : b = a
      · subst hb; rw [putG_same] at e; cases e; exact r.hst.gh _ _ _ g1
      · rw [putG_ne hb] at e; exact r.hst.gh b t u e
    · obtain ⟨b, q1, q2⟩ := r.hst.sto n ob e
      refine ⟨b, q1, ?_⟩
      unfold SO at q2 ⊢
      cases ob with
      | lst ds =>
        obtain ⟨xs, e1, r1⟩ := q2
        exact ⟨xs, by rw [putG_ne (ne e1 (by intro z; cases z))]; exact e1, r1.ev ev⟩
      | ins c fs => exact q2
    · by_cases hji : j = i
      · subst hji
        rw [hd] at hj; cases hj
        exact ⟨.ref a, s1, CO.frz (zof_of putG_same) (c1.mono ev.same ev.al)⟩
      · obtain ⟨v, q1, q2⟩ := r.val j e hj (by rw [← h3 j hji]; exact hoj)
        exact ⟨v, q1, q2.ev ev⟩
    · have hji : j ≠ i := by intro z; subst z; rw [h2] at hoj; cases hoj
      obtain ⟨b, ob, q1, q2, q3⟩ := r.own j e hj (by rw [← h3 j hji]; exact hoj)
      exact ⟨b, ob, q1, by rw [putG_ne (ne q2 (by intro z; cases z; exact hji rfl))]; exact q2, q3.mono ev.same ev.al⟩
  · refine ⟨G, .refl, r.hst, r.len, fun j e hj hoj => ?_, fun j e hj hoj => ?_⟩
    · have hji : j ≠ i := by intro z; subst z; exact hd ⟨e, hj⟩
      exact r.val j e hj (by rw [← h3 j hji]; exact hoj)
    · have hji : j ≠ i := by intro z; subst z; exact hd ⟨e, hj⟩
      exact r.own j e hj (by rw [← h3 j hji]; exact hoj)
theorem Rst.thaw (r : Rst K cls own' G al m σ H) (h3 : ∀ j, j ≠ i → own' j = own j) : Rst K cls own G al { m with sl := m.sl.set i none } σ H := by
  refine ⟨r.hst, by simp [r.len], fun j e hj hoj => ?_, fun j e hj hoj => ?_⟩
  · rcases getSet hj with ⟨_, _, e1⟩ | ⟨ne, hj⟩
    · cases e1
    · exact r.val j e hj (by rw [h3 j ne]; exact hoj)
  · rcases getSet hj with ⟨_, _, e1⟩ | ⟨ne, hj⟩
    · cases e1
    · exact r.own j e hj (by rw [h3 j ne]; exact hoj)
end
section
variable {cls : Nat → Addr} {own own' : Nat → Bool} {X : Cx} {sts : List Stmt} {f : Den Fl} {i : Nat}
theorem ss_frz0 (h1 : own i = true) (h2 : own' i = false) (h3 : ∀ j, j ≠ i → own' j = own j) (h : SSs cls own' X sts f) : SSs cls own X sts (sFrz i f) := by
  refine pss_imp h fun E σ H q => ?_
  obtain ⟨G, al, m, fl, m', r, e, k⟩ := q
  unfold sFrz at e
  split at e
  case h_2 => cases e
  next fl1 m1 e1 =>
  cases e
  obtain ⟨G1, ev1, r1⟩ := r.freeze h1 h2 h3
  exact ⟨G1, al, m, fl, m1, r1, e1, fun G2 al2 σ2 H2 ev2 r2 => k G2 al2 σ2 H2 (ev1.trans ev2) (r2.thaw h3)⟩
theorem ss_frz {l : List Nat} (i : Nat) (h1 : ownL l i = true) (h : SSs cls (ownL (l.filter (· != i))) X sts f) : SSs cls (ownL l) X sts (sFrz i f) := by
  refine ss_frz0 h1 ?_ (fun j hj => ?_) h
  · unfold ownL
    rw [List.contains_eq_mem, decide_eq_false_iff_not]
    intro h
    have := (List.mem_filter.mp h).2
    simp at this
  · unfold ownL
    rw [List.contains_eq_mem, List.contains_eq_mem, decide_eq_decide]
    simp [List.mem_filter, hj]
end

/-! ### a, b = x, y -/
def sPar (i j : Nat) (fs : Den (List Hd)) : Den Fl := (aVals fs).bind fun ds => fun m => match ds with
  | [x, y] => .ok .nx { m with sl := (m.sl.set i (some x)).set j (some y) }
  | _ => .bad
def sPar3 (i j l : Nat) (fs : Den (List Hd)) : Den Fl := (aVals fs).bind fun ds => fun m => match ds with
  | [x, y, z] => .ok .nx { m with sl := ((m.sl.set i (some x)).set j (some y)).set l (some z) }
  | _ => .bad
section
variable {cls : Nat → Addr} {own : Nat → Bool} {X : Cx} {a b c : Expr} {fs : Den (List Hd)} {px py pz pt pos : Pos} {kt k2 : Nat} {pt2 : Pos} {i j l : Nat} {x y z : Str}
theorem ss_par (hi0 : own i = false) (hj0 : own j = false) (hc : X.calm = true) (hN : X.N.Nodup) (hi : X.N[i]? = some x) (hj : X.N[j]? = some y) (hij : i ≠ j)
    (hx : X.env.scope.names.lookup x = some .local) (hy : X.env.scope.names.lookup y = some .local) (ha : SHs cls own X [a, b] fs)
    (hw : swappedStores [.Tuple [.Name x px, .Name y py] kt pt] (.Tuple [a, b] k2 pt2) X.env = pure (some [x, y]))
    (hs : swapsWithSole [.Tuple [.Name x px, .Name y py] kt pt] (.Tuple [a, b] k2 pt2) pos.line X.env = pure false := by rfl) :
    SS cls own X (.Assign [.Tuple [.Name x px, .Name y py] kt pt] (.Tuple [a, b] k2 pt2) pos) (sPar i j fs) := by
  refine ps_imp (ps_par hc hN hi hj hij hx hy ha hw hs) fun E σ H q => ?_
  obtain ⟨G, al, m, fl, m', r, e, k⟩ := q
  obtain ⟨ds, m1, e1, e⟩ := bind_ok e
  obtain ⟨hs, e1, lk⟩ := aVals_ok e1
  refine ⟨G, al, m, hs, m1, r, e1, fun G1 al1 vs H1 ev1 r1 hv => ?_⟩
  have dv := looksV_dv hv lk
  split at e
  · next d1 d2 =>
    cases e
    cases dv with
    | cons q1 dv =>
      cases dv with
      | cons q2 dv =>
        cases dv
        exact ⟨_, _, rfl, k G1 al1 _ H1 ev1 ((r1.set q1 hi0).set q2 hj0)⟩
  · cases e
end

/-! ### slices -/
def cutD (ds : List D) (lo hi : Option Int) : List D := (ds.drop (HT.sIx ds.length 0 lo)).take (HT.sIx ds.length ds.length hi - HT.sIx ds.length 0 lo)
def gCut : D → Option Int → Option Int → Option D
  | .lst ds, lo, hi => some (.lst (cutD ds lo hi))
  | .tup ds, lo, hi => some (.tup (cutD ds lo hi))
  | .str z, lo, hi => if fitL z.length then some (.str (cutS z lo hi)) else none
  | _, _, _ => none
def pNo : Den (Option Int) := .ret none
def pInt (f : Den D) : Den (Option Int) := f.bind fun d => fun m => match d with
  | .int i => .ok (some i) m
  | _ => .bad
def eCut (fa : Den Hd) (fl fh : Den (Option Int)) : Den D := fa.bind fun h => fl.bind fun lo => fh.bind fun hi => fun m => match look h m with
  | some d => match gCut d lo hi with
    | some z => .ok z m
    | none => .bad
  | none => .bad
def tOp (K : KX) (cls : Nat → Addr) (own : Nat → Bool) (f : Den (Option Int)) : TO := fun σ H Q => ∃ G al m d m', Rst K cls own G al m σ H ∧ f m = .ok d m' ∧
  ∀ G' al' H', Ev G al G' al' → Rst K cls own G' al' m' σ H' → Q d H'
abbrev SP (cls : Nat → Addr) (own : Nat → Bool) (X : Cx) (e : Option Expr) (f : Den (Option Int)) : Prop := PO X e (tOp X.kx cls own f)
theorem po_imp {X : Cx} {e : Option Expr} {t t' : TO} (h : PO X e t) (i : ∀ σ H Q, t' σ H Q → t σ H Q) : PO X e t' := ⟨fun pins s σ H Q I q => h.run pins s σ H Q I (i σ H Q q)⟩
section
variable {cls : Nat → Addr} {own : Nat → Bool} {X : Cx} {a : Expr} {lo hi : Option Expr} {fa : Den Hd} {f : Den D} {fl fh : Den (Option Int)} {p2 pos : Pos}
theorem sp_no : SP cls own X none pNo := po_imp po_none fun σ H Q ⟨G, al, m, d, m', r, e, k⟩ => by cases e; exact k G al H .refl r
theorem sp_int (h : SE cls own X a f) : SP cls own X (some a) (pInt f) := by
  refine po_imp (po_some h) fun σ H Q q => ?_
  obtain ⟨G, al, m, d, m', r, e, k⟩ := q
  obtain ⟨x, m1, e1, e⟩ := bind_ok e
  refine ⟨G, al, m, x, m1, r, e1, fun G1 al1 v H1 ev1 r1 dv => ?_⟩
  split at e
  · next i => cases e; cases dv; exact ⟨i, rfl, k G1 al1 H1 ev1 r1⟩
  · cases e
/-- t[lo:hi]: a new tuple, or t itself -/
def rSlF (K : PySem.W.Frag) : V → Option Int → Option Int → Hp → VK → Prop := fun x lo hi H Q => ∃ a xs, x = .ref a ∧ SqT K H a xs ∧
  (HT.sIx xs.length 0 lo = 0 ∧ HT.sIx xs.length xs.length hi = xs.length → Q (.ref a) H) ∧ (¬ (HT.sIx xs.length 0 lo = 0 ∧ HT.sIx xs.length xs.length hi = xs.length) → ∀ p ob, H p = none → ob.dict = none → Q (.ref p) (upd H p (.frz ob (.tup (cutV xs lo hi)))))
theorem sl_tupF : SlR X (rSlF X.K) := by
  intro pins s σ H x v vl vu lo hi sl Q I rx hs pl pu h
  obtain ⟨a, xs, rfl, hx, q1, q2⟩ := h
  cases rx
  obtain ⟨its, r, ht, hz⟩ := I.tuple hx
  have hlen : its.toArray.size = xs.length := by rw [List.size_toArray]; exact r.length.symm
  refine ⟨"tuple", _, PyProof.Rows.slot_tuple_getitem.lookup, ht.typeIs, ?_⟩
  by_cases hw : HT.sIx xs.length 0 lo = 0 ∧ HT.sIx xs.length xs.length hi = xs.length
  · exact getItem_tuple_whole ht hs pl pu (by rw [hlen]; exact hw) ⟨.ref a, H, I, rfl, q1 hw⟩
  · refine HT.getItem_tuple_cut ht hs pl pu (by rw [hlen]; exact hw) ?_ (by rw [hlen]; exact hz)
    rw [hlen]
    refine ⟨.ref s.heap.objs.size, _, I.laid (t' := s.toks) (o := .frz (newT _) (.tup (cutV xs lo hi))) (fun b ob q => Heap.get?_push_of_some _ q) (Nat.le_refl _)
      (newT_ok (Nat.le_trans (cutV_length xs lo hi) hz) ((r.drop (HT.sIx xs.length 0 lo)).take (HT.sIx xs.length xs.length hi - HT.sIx xs.length 0 lo)) ?_), rfl, q2 hw _ _ (I.hok.fresh (Nat.le_refl _)) rfl⟩
    exact Heap.get?_push_size _ rfl
def rCutU (K : PySem.W.Frag) : V → Option Int → Option Int → Hp → VK → Prop := fun x lo hi H Q => rSlL K x lo hi H Q ∨ (rSlF K x lo hi H Q ∨ rSlS x lo hi H Q)
theorem sl_U : SlR X (rCutU X.K) := sl_list.or (sl_tupF.or sl_str)
theorem cutV_dvs {K : KX} {Z : Hp} {al : List Addr} {xs : List V} {ds : List D} {lo hi : Option Int} (h : DVs K Z al xs ds) : DVs K Z al (cutV xs lo hi) (cutD ds lo hi) := by
  unfold cutV cutD
  rw [h.length]
  exact (h.drop _).take _
theorem cutD_all {ds : List D} {lo hi : Option Int} (h : HT.sIx ds.length 0 lo = 0 ∧ HT.sIx ds.length ds.length hi = ds.length) : cutD ds lo hi = ds := by
  unfold cutD
  rw [h.1, h.2]
  simp
theorem eCut_ok {m m' : MS} {d : D} (e : eCut fa fl fh m = .ok d m') : ∃ h m1 lo m2 hi x, fa m = .ok h m1 ∧ fl m1 = .ok lo m2 ∧ fh m2 = .ok hi m' ∧ look h m' = some x ∧ gCut x lo hi = some d := by
  obtain ⟨h, m1, e1, e⟩ := bind_ok e
  obtain ⟨lo, m2, e2, e⟩ := bind_ok e
  obtain ⟨hi, m3, e3, e⟩ := bind_ok e
  split at e
  · next x l1 =>
    split at e
    · next z gz => cases e; exact ⟨h, m1, lo, m2, hi, x, e1, e2, e3, l1, gz⟩
    · cases e
  · cases e
theorem se_cut (ha : SH cls own X a fa) (hl : SP cls own X lo fl) (hh : SP cls own X hi fh) : SE cls own X (.Subscript a (.Slice lo hi none p2) pos) (eCut fa fl fh) := by
  refine pe_imp (pe_slice sl_U ha hl hh) fun σ H Q q => ?_
  obtain ⟨G, al, m, d, m', r, e, k⟩ := q
  obtain ⟨h, m1, l0, m2, h0, x, e1, e2, e3, l1, gz⟩ := eCut_ok e
  refine ⟨G, al, m, h, m1, r, e1, fun G1 al1 v H1 ev1 r1 hv => ⟨G1, al1, m1, l0, m2, r1, e2, fun G2 al2 H2 ev2 r2 => ⟨G2, al2, m2, h0, m', r2, e3, fun G3 al3 H3 ev3 r3 => ?_⟩⟩⟩
  have cr := look_cr r3 ((hv.ev ev2).ev ev3) l1
  have kk : Post X.kx cls own G3 al3 m' σ d Q := fun G4 al4 v4 H4 ev4 r4 dv4 => k G4 al4 v4 H4 (((ev1.trans ev2).trans ev3).trans ev4) r4 dv4
  unfold gCut at gz
  split at gz
  · next ds =>
    cases gz
    obtain ⟨p, xs, rfl, h1, c1⟩ := cr
    refine .inl ⟨p, xs, rfl, .inl (.inl h1), fun q hq => ?_⟩
    have hn := r3.hst.nog hq
    have ev : Ev G3 al3 (putG G3 q .frz (.lst (cutV xs l0 h0))) al3 := ev_put hn
    exact kk _ al3 _ _ ev ((r3.fresh hq).tag hn upd_same) (.lst (zof_of putG_same) ((cutV_dvs c1).ev ev))
  · next ds =>
    cases gz
    obtain ⟨p, xs, rfl, h1, c1⟩ := cr.tup
    refine .inr (.inl ⟨p, xs, rfl, Same.tupS r3.zh h1, fun hz => ?_, fun _ q ob hq hdb => kk.tup r3 (cutV_dvs c1) hq hdb⟩)
    rw [c1.length] at hz
    rw [cutD_all hz] at kk
    exact kk.keep r3 (.tup h1 c1)
  · next z =>
    split at gz
    · next hf => cases gz; cases cr.str; exact .inr (.inr ⟨z, rfl, fitL_le hf, kk.keep r3 (.str _)⟩)
    · cases gz
  · cases gz
theorem sf_cut (ha : SH cls own X a fa) (hl : SP cls own X lo fl) (hh : SP cls own X hi fh) : SF cls own X (.Subscript a (.Slice lo hi none p2) pos) ((eCut fa fl fh).bind fun d => fun m => match d with | .lst ds => .ok (.lst ds) m | _ => .bad) := by
  refine pe_imp (pe_slice sl_U ha hl hh) fun σ H Q q => ?_
  obtain ⟨G, al, m, d, m', r, e, k⟩ := q
  obtain ⟨d0, m0, e, e0⟩ := bind_ok e
  split at e0
  case h_2 => cases e0
  cases e0
  obtain ⟨h, m1, l0, m2, h0, x, e1, e2, e3, l1, gz⟩ := eCut_ok e
  refine ⟨G, al, m, h, m1, r, e1, fun G1 al1 v H1 ev1 r1 hv => ⟨G1, al1, m1, l0, m2, r1, e2, fun G2 al2 H2 ev2 r2 => ⟨G2, al2, m2, h0, m', r2, e3, fun G3 al3 H3 ev3 r3 => ?_⟩⟩⟩
  have cr := look_cr r3 ((hv.ev ev2).ev ev3) l1
  unfold gCut at gz
  split at gz
  · cases gz
    obtain ⟨p, xs, rfl, h1, c1⟩ := cr
    exact .inl ⟨p, xs, rfl, .inl (.inl h1), fun q hq => k G3 al3 q _ _ ((ev1.trans ev2).trans ev3) (r3.fresh hq) upd_same (r3.hst.nog hq) (cutV_dvs c1)⟩
  · cases gz
  · split at gz <;> cases gz
  · cases gz
end

/-! ### list(range(..)) -/
def eListRg (f : Den (List D)) : Den D := f.bind fun ds => fun m => if ds.length ≤ 16777216 then .ok (.lst ds) m else .bad
theorem rg_dvs {K : KX} {Z : Hp} {al : List Addr} {lo hi : Int} : DVs K Z al (rgV lo hi) (rangeD lo (hi - lo).toNat) := by
  unfold rgV
  generalize (hi - lo).toNat = n
  induction n generalizing lo with
  | zero => exact .nil
  | succ n ih =>
    rw [List.range_succ_eq_map, List.map_cons, List.map_map, rangeD]
    refine .cons (by simp only [Int.natCast_zero, Int.add_zero]; exact .int lo) ?_
    have := ih (lo := lo + 1)
    have e : (List.map ((fun i => V.int (lo + (i : Nat))) ∘ Nat.succ) (List.range n)) = (List.map (fun i => V.int (lo + 1 + (i : Nat))) (List.range n)) := by
      apply List.map_congr_left
      intro i _
      show V.int _ = V.int _
      congr 1
      simp only [Nat.succ_eq_add_one, Int.natCast_add]
      omega
    rw [e]
    exact this
section
variable {cls : Nat → Addr} {own : Nat → Bool} {X : Cx} {a b : Expr} {fa fb : Den Hd} {p p2 pos pos2 : Pos}
def iRg1 (fa : Den Hd) : Den (List D) := fa.bind fun h => fun m => match h with
  | .val (.int j) => if smallI j then .ok (rangeD 0 (j - 0).toNat) m else .bad
  | _ => .bad
theorem sf_listRg1 (hc : X.calm = true) (hg : Gl X "list") (hm : X.mg "list" = none) (hg2 : Gl X "range") (hm2 : X.mg "range" = none) (ha : SH cls own X a fa)
    (na : starEach [a] X.env = (false, eval a X.env) :: starEach [] X.env := by rfl)
    (nb : starEach [.Call (.Name "range" p2) [a] [] pos2] X.env = (false, eval (.Call (.Name "range" p2) [a] [] pos2) X.env) :: starEach [] X.env := by rfl) :
    SF cls own X (.Call (.Name "list" p) [.Call (.Name "range" p2) [a] [] pos2] [] pos) (eListRg (iRg1 fa)) := by
  refine pe_imp (pe_listRg hc hg hm (prg_1 hg2 hm2 ha na) nb) fun σ H Q q => ?_
  obtain ⟨G, al, m, d, m', r, e, k⟩ := q
  obtain ⟨ds, m1, e1, e⟩ := bind_ok e
  split at e
  case isFalse => cases e
  next hl =>
  cases e
  obtain ⟨h, m2, e2, e1⟩ := bind_ok e1
  split at e1
  case h_2 => cases e1
  next j =>
  split at e1
  case isFalse => cases e1
  next hs =>
  cases e1
  refine ⟨G, al, m, _, _, r, e2, fun G1 al1 v H1 ev1 r1 hv => ?_⟩
  cases (show DV X.kx (Zof G1) al1 v (.int j) from hv)
  obtain ⟨s1, s2⟩ := smallI_le hs
  rw [rangeD_len] at hl
  exact ⟨j, rfl, ⟨by decide, by decide, s1, s2, by omega⟩, fun q hq => k G1 al1 q _ _ ev1 (r1.fresh hq) upd_same (r1.hst.nog hq) (show DVs _ _ _ _ _ from rg_dvs)⟩
end
end MI

namespace MI
open PySem PySem.Spec L2

section
variable {prog : Program} {w : World} {A : Around} {E : Value → Shared → Prop} {s : Shared}
/-- collecting what stands at r gives vs -/
def Colls (prog : Program) (w : World) (A : Around) (s : Shared) (r : Addr) (vs : List Value) : Prop := ∀ (E : Value → Shared → Prop) (Q : List Value → Shared → Prop),
  (∀ (h' : Heap) (tk : Nat), (∀ b o, s.heap.get? b = some o → h'.get? b = some o) → Q vs { s with heap := h', toks := tk }) → wpAny (model prog w) A (collect (.ref r)) Q E s
theorem sorted_coll {β : Type} {R : Value → β → Prop} {enc : β → PyData} {r : Addr} {vs : List Value} {bs : List β} {Q : Value → Shared → Prop} (hc : Colls prog w A.in1 s r vs) (hL : vs.length ≤ sizeLine) (e : PySem.W.EachIs R vs bs)
    (er : PySem.W.EachIs (fun v b => ∃ as, Reads s.heap v (enc b) as) vs bs) (hal : PySem.W.AllAlike (bs.map enc))
    (hS : ∀ s' : Shared, (∀ b o, s.heap.get? b = some o → s'.heap.get? b = some o) → PySem.W.SortsAt prog w A.in1.in1 s' (PySem.W.dataKind s'.heap (bs.map enc)) vs)
    (h : ∀ (h1 h2 : Heap) (tk : Nat) (n : Nat) (out : List Value), (∀ b o, s.heap.get? b = some o → h1.get? b = some o) → (∀ b o, h1.get? b = some o → h2.get? b = some o) → h2.get? h1.objs.size = some (PyProof.Rows.seqObj "list" out.toArray n) → PySem.W.EachIs R out (bs.mergeSort (PySem.W.dataLe false enc)) →
      Q (.ref h1.objs.size) { s with heap := h2, toks := tk }) : wpAny (model prog w) A (call (.builtin "sorted") [.ref r]) Q E s := by
  refine PySem.Calls.call_function_entry PyProof.Rows.kind_sorted PyProof.Rows.plain_sorted PyProof.Rows.entry_sorted (PyProof.Rows.args_sorted1 _) ?_
  unfold Builtin.«sorted»
  refine wpAny_bind (m := checkCount "sorted" 1 1 _) (wpAny_pure ?_)
  refine wpAny_bind (hc _ _ fun h' tk hk => ?_)
  refine wpAny_bind (wpAny_newList ?_ hL)
  have hob : (h'.push { cls := .type "list", data := .seq vs.toArray }).get? h'.objs.size = some (PyProof.Rows.seqObj "list" vs.toArray 0) := Heap.get?_push_size _ rfl
  have kp : ∀ b o, s.heap.get? b = some o → (PySem.W.sortingHeap (h'.push { cls := .type "list", data := .seq vs.toArray }) h'.objs.size vs).get? b = some o := fun b o q =>
    PySem.W.sortingHeap_old (Nat.ne_of_lt (Heap.lt_size (hk b o q))) (Heap.get?_push_of_some _ (hk b o q))
  have er' : PySem.W.EachIs (fun v b => ∃ as, Reads (PySem.W.sortingHeap (h'.push { cls := .type "list", data := .seq vs.toArray }) h'.objs.size vs) v (enc b) as) vs bs := er.mono fun _ _ ⟨as, q⟩ => ⟨as, PyProof.Rows.Reads.keeps kp q⟩
  have S := hS { s with heap := PySem.W.sortingHeap (h'.push { cls := .type "list", data := .seq vs.toArray }) h'.objs.size vs, toks := tk } kp
  refine wpAny_bind (wpAny_holding (wpAny_call_entry PyProof.Rows.slot_list_sort ⟨_, hob, rfl⟩ PyProof.Rows.entry_list_sort ?_ (PyProof.Rows.args_list_sort _)))
  show wpAny (model prog w) A.in1.in1 (Builtin.«list.sort» ⟨[.ref h'.objs.size], []⟩) _ _ { s with heap := h'.push { cls := .type "list", data := .seq vs.toArray }, toks := tk }
  refine PySem.W.list_sort_vals (s := { s with heap := h'.push { cls := .type "list", data := .seq vs.toArray }, toks := tk }) hob S hL ⟨_, rfl, wpAny_pure ⟨_, rfl, ?_⟩⟩
  obtain ⟨ep, he⟩ := PyProof.Rows.sortedHeap_at (vs := vs) (out := (PySem.W.sortVals (PySem.W.dataKind (PySem.W.sortingHeap (h'.push { cls := .type "list", data := .seq vs.toArray }) h'.objs.size vs) (bs.map enc)) false vs vs).toArray) hob
  refine h h' _ tk ep _ hk (fun b o q => ?_) he (PySem.W.sortVals_data false e er' hal)
  rw [PyProof.Rows.sortedHeap_old (Nat.ne_of_lt (Heap.lt_size q)) (Heap.lt_size (Heap.get?_push_of_some _ q))]
  exact Heap.get?_push_of_some _ q
end

section
variable {prog : Program} {w : World} {A : Around} {E : Value → Shared → Prop} {s : Shared}
theorem call_tup_lt {Q : Value → Shared → Prop} {l b : Addr} {items items2 : Array Value} {e r : Nat → Bool} (hl : s.heap.IsTuple l items) (hb : s.heap.IsTuple b items2)
    (he : ∀ j (h1 : j < items.size) (h2 : j < items2.size), SeqAt.EqAt A.in1 s items[j] items2[j] (e j)) (hr : ∀ j (h1 : j < items.size) (h2 : j < items2.size), e j = false → SeqAt.RcLt A.in1 s items[j] items2[j] (r j))
    (h : Q (.bool (SeqAt.firstLt e r (decide (items.size < items2.size)) (List.range (min items.size items2.size)))) s) : wpAny (model prog w) A (call (.builtin "tuple.__lt__") [.ref l, .ref b]) Q E s := by
  obtain ⟨⟨c1, dd, da, sl⟩, ho, hc, n, hd⟩ := id hl
  obtain ⟨⟨c2, dd2, da2, sl2⟩, ho2, hc2, n2, hd2⟩ := id hb
  simp only at hc hd hc2 hd2
  subst hc hd hc2 hd2
  exact call_meets PySem.F.slot_tuple_lt ⟨_, ho, rfl⟩ PySem.F.entry_tuple_lt (PySem.F.args_tuple_lt_2 _ _) (SeqAt.tuple_ltAt l b items items2 n n2 dd dd2 sl sl2 e r) ⟨ho, ho2, he, hr, h⟩
theorem oneLt_tup {xs ys : List PyData} {a b : Value} {as bs : List Addr} {Q : Bool → Shared → Prop} (ra : Reads s.heap a (.tuple xs) as) (rb : Reads s.heap b (.tuple ys) bs) (h : PySem.W.alike (.tuple xs) (.tuple ys) = true)
    (hu : A.units + min (PyData.tuple xs).depth (PyData.tuple ys).depth < cLine) (hq : Q (PySem.W.dataLt (.tuple xs) (.tuple ys)) s) : wpAny (model prog w) A (PyProof.Rows.oneLt' true a b) Q E s := by
  have hal : PySem.W.alikeAll xs ys = true := by simpa [PySem.W.alike] using h
  cases ra with
  | @tuple l o vs n _ as₁ h1 h2 h3 h4 =>
    cases rb with
    | @tuple l' o' vs' n' _ bs₁ k1 k2 k3 k4 =>
      have n1 : vs.size = xs.length := by simpa using SeqAt.ReadsAll.length _ _ _ h4
      have n2 : vs'.size = ys.length := by simpa using SeqAt.ReadsAll.length _ _ _ k4
      rw [PySem.W.dataLt_tuple, ← PySem.W.firstLt_toks xs ys hal, ← n1, ← n2] at hq
      rw [PyProof.Rows.oneLt'_eq]
      simp only [if_true]
      refine wpAny_bind (wpAny_cRoomFor (SeqAt.room_here hu) ?_)
      refine wpAny_bind (wpAny_callSpecialIfBound?_slot (T := "tuple") ⟨_, h1, h2⟩ PySem.F.slot_tuple_lt (call_tup_lt (e := SeqAt.pairEq xs ys) (r := fun j => PySem.W.dataLt (xs.getD j .none) (ys.getD j .none)) ⟨_, h1, h2, _, h3⟩ ⟨_, k1, k2, _, k3⟩ (fun j j1 j2 => ?_) (fun j j1 j2 hj => ?_) ?_))
      · have := PySem.W.eqAt_alikeAll xs ys A.in1 s vs.toList vs'.toList _ _ h4 k4 hal (SeqAt.room_in hu) j (by simpa using j1) (by simpa using j2)
        simpa using this
      · have := PySem.W.rcLt_alikeAll xs ys A.in1 s vs.toList vs'.toList _ _ h4 k4 hal (SeqAt.room_in hu) j (by simpa using j1) (by simpa using j2) hj
        simpa using this
      · exact wpAny_truthy_bool hq
def headT : PyData → Bool
  | .tuple (_ :: _) => true
  | _ => false
theorem tup_firsts : ∀ {vs : List Value} {ds : List PyData} {Q : List (Option Value) → Shared → Prop}, PySem.W.EachIs (fun v d => ∃ as, Reads s.heap v d as) vs ds → (∀ d ∈ ds, ∃ xs, d = .tuple xs) →
    (∀ fs : List (Option Value), fs.map Option.isSome = ds.map headT → Q fs s) → wpAny (model prog w) A (vs.mapM PyProof.Rows.firstOfTuple') Q E s
  | _, _, _, .nil, _, h => by rw [List.mapM_nil]; exact wpAny_pure (h [] rfl)
  | _, _, Q, .cons (b := d) ⟨as, r⟩ t, ht, h => by
    obtain ⟨xs, rfl⟩ := ht d (List.mem_cons_self ..)
    cases r with
    | @tuple a o vs n _ _ ho hc hd hr =>
      rw [List.mapM_cons]
      refine wpAny_bind ?_
      rw [PySem.W.kas_first_eq]
      refine wpAny_bind (PySem.W.Looks.here (show PySem.W.Looks (model prog w) s.heap (typeOf (.ref a)) o.cls from (PySem.W.Looks.ld ho).andThen .now) ?_)
      rw [hc, if_neg (by first | decide | simp)]
      refine wpAny_bind (PyProof.Rows.listItems_at ho hd (wpAny_pure ?_))
      refine wpAny_bind (tup_firsts (Q := fun bs s' => wpAny (model prog w) A (pure (vs[0]? :: bs)) Q E s') t (fun d hd => ht d (List.mem_cons_of_mem _ hd)) fun fs e => wpAny_pure (h _ ?_))
      rw [List.map_cons, List.map_cons, e]
      congr 1
      have hl : vs.size = xs.length := by simpa using SeqAt.ReadsAll.length _ _ _ hr
      cases xs with
      | nil =>
        have : vs[0]? = none := by rw [Array.getElem?_eq_none]; rw [hl]; exact Nat.le_refl _
        rw [this]; rfl
      | cons x xr =>
        have hlt : 0 < vs.size := by rw [hl]; simp
        rw [Array.getElem?_eq_getElem hlt]; rfl
/-- tuples among which are empty ones -/
theorem sortsAt_tups {vs : List Value} {ds : List PyData} (e : PySem.W.EachIs (fun v d => ∃ as, Reads s.heap v d as) vs ds) (hal : PySem.W.AllAlike ds) (ht : ∀ d ∈ ds, ∃ xs, d = .tuple xs) (hne : ds.all headT = false) (hu : ∀ d, d ∈ ds → A.units + d.depth < cLine) :
    PySem.W.SortsAt prog w A s (PySem.W.dataKind s.heap ds) vs := by
  have room : ∀ {d d' : PyData}, d ∈ ds → A.units + min d.depth d'.depth < cLine := fun {d d'} hd => Nat.lt_of_le_of_lt (Nat.add_le_add_left (Nat.min_le_left _ _) _) (hu d hd)
  refine ⟨fun v hv => ?_, ?_⟩
  · obtain ⟨d, hd, as, r⟩ := e.left v hv
    exact ⟨_, PySem.W.dataKind_some hal hd r⟩
  · have hall : ∀ fs : List (Option Value), fs.map Option.isSome = ds.map headT → (fs.toArray.all fun x => x.isSome) = false := by
      intro fs hf
      rw [List.all_toArray]
      have h1 : (fs.all fun x => x.isSome) = (fs.map Option.isSome).all id := by rw [List.all_map]; rfl
      rw [h1, hf, List.all_map]
      exact hne
    cases hb : (ds.map headT)[0]? with
    | none =>
      cases ds with
      | nil => cases hne
      | cons d ds => cases hb
    | some b =>
      cases b with
      | true =>
        refine ⟨PyProof.Rows.general', ?_, fun h2 E Q hq => ?_⟩
        · intro E x y a b Q ha hb hq
          obtain ⟨d, as, hd, ra, rfl⟩ := PySem.W.dataKind_inv ha
          obtain ⟨d', as', hd', rb, rfl⟩ := PySem.W.dataKind_inv hb
          show wpAny _ _ (PyProof.Rows.oneLt' false x y) _ _ _
          exact PySem.W.oneLt_alike (f := false) (fun z => nomatch z) ra rb (hal d hd d' hd') (by obtain ⟨xs, rfl⟩ := ht d hd; intro z; cases z) (room hd) hq
        · rw [PyProof.Rows.keyKind'_eq, List.mapM_toArray, map_eq_pure_bind]
          refine wpAny_bind (wpAny_bind (tup_firsts e ht fun fs hf => wpAny_pure ?_))
          rw [if_neg (by rw [hall fs hf]; decide)]
          have h0 : (fs.toArray[0]?.bind id).isSome = true := by
            have : (fs.map Option.isSome)[0]? = some true := by rw [hf]; exact hb
            rw [List.getElem?_map] at this
            rw [List.getElem?_toArray]
            cases q : fs[0]? with
            | none => rw [q] at this; cases this
            | some o => rw [q] at this; cases o with
              | none => cases this
              | some v => rfl
          rw [if_pos h0]
          exact wpAny_pure hq
      | false =>
        refine ⟨PyProof.Rows.oneType', ?_, fun h2 E Q hq => ?_⟩
        · intro E x y a b Q ha hb hq
          obtain ⟨d, as, hd, ra, rfl⟩ := PySem.W.dataKind_inv ha
          obtain ⟨d', as', hd', rb, rfl⟩ := PySem.W.dataKind_inv hb
          rw [PyProof.Rows.keyLt'_oneType]
          have hdd := hal d hd d' hd'
          have hr := room (d' := d') hd
          obtain ⟨xs, rfl⟩ := ht d hd
          obtain ⟨ys, rfl⟩ := ht d' hd'
          exact oneLt_tup ra rb hdd hr hq
        · rw [PyProof.Rows.keyKind'_eq, List.mapM_toArray, map_eq_pure_bind]
          refine wpAny_bind (wpAny_bind (tup_firsts e ht fun fs hf => wpAny_pure ?_))
          rw [if_neg (by rw [hall fs hf]; decide)]
          have h0 : (fs.toArray[0]?.bind id).isSome = false := by
            have : (fs.map Option.isSome)[0]? = some false := by rw [hf]; exact hb
            rw [List.getElem?_map] at this
            rw [List.getElem?_toArray]
            cases q : fs[0]? with
            | none => rfl
            | some o => rw [q] at this; cases o with
              | none => rfl
              | some v => cases this
          rw [if_neg (by rw [h0]; decide)]
          rw [PyProof.Rows.oneTypeOnly'_eq, List.mapM_toArray, map_eq_pure_bind]
          refine wpAny_bind (wpAny_bind (wpAny_bind (PySem.W.kas_mapM (r := Value.type "tuple") _ (fun v hv Q' hq => ?_) (wpAny_pure ?_))))
          · obtain ⟨d, hd, as, r⟩ := e.left v hv
            obtain ⟨xs, rfl⟩ := ht d hd
            exact (PySem.W.looks_reads r).here hq
          · have hal2 : ((List.map (fun _ => Value.type "tuple") vs).toArray.all fun x => x == Value.type "tuple") = true := by
              simp only [List.all_toArray, List.all_map, List.all_eq_true]
              intro _ _
              exact beq_self_eq_true _
            have h00 : (List.map (fun _ => Value.type "tuple") vs).toArray[0]? = some (Value.type "tuple") := by
              cases vs with
              | nil => simp at h2
              | cons v vs => simp
            rw [h00]
            simp only [hal2, if_true]
            exact wpAny_pure (wpAny_pure hq)
end
def SortT (ds : List PyData) : Prop := PySem.W.Sortable ds ∨ ((∀ d ∈ ds, ∃ xs, d = .tuple xs) ∧ ds.all headT = false)
section
variable {X : Cx} {pins : List (Addr × Obj)} {σ : St} {H : Hp} {s : Shared}
/-- what may be sorted, walked: a list, a tuple, a dict of tuples -/
def SrcAt (K : KX) (H : Hp) (p : Addr) (ys : List V) : Prop := SqL K.K H p ys ∨ SqT K.K H p ys ∨ ∃ o xs, DNat K H p o xs ∧ ys = xs.map fun x => V.ref x.2.1
theorem SrcAt.colls {p : Addr} {ys : List V} (hc : X.calm = true) (h : SrcAt X.kx H p ys) (I : Inv X pins σ H s) : ∃ us, Vals ys us ∧ us.length ≤ sizeLine ∧ Colls X.prog X.w X.A.in1 s p us := by
  rcases h with h | h | ⟨o, xs, d, rfl⟩
  · obtain ⟨its, r, pl, hz⟩ := I.list h
    obtain ⟨o, ho, hc, n, hd⟩ := pl.isList
    refine ⟨its, r, by rw [← r.length]; exact hz, fun E Q q => wpAny_collect_seq p (.inl rfl) ho hc hd (fun h' k => ?_) (by rw [List.size_toArray, ← r.length]; exact hz)⟩
    have := q h' s.toks k
    rwa [show its.toArray.toList = its from rfl]
  · obtain ⟨its, r, pl, hz⟩ := I.tuple h
    obtain ⟨o, ho, hc, n, hd⟩ := pl
    refine ⟨its, r, by rw [← r.length]; exact hz, fun E Q q => wpAny_collect_seq p (.inr rfl) ho hc hd (fun h' k => ?_) (by rw [List.size_toArray, ← r.length]; exact hz)⟩
    have := q h' s.toks k
    rwa [show its.toArray.toList = its from rfl]
  · obtain ⟨es, ep, hd, he⟩ := d.raw.ent
    obtain ⟨ho, _⟩ := I.hok p _ d.at_
    have hraw : s.heap.DictRaw p es ep := ⟨o, ho, d.raw.exact', hd⟩
    have hlen : es.size = xs.length := by rw [← Array.length_toList, he, List.length_map]
    have hh : X.A.in1.handled = none := I.ok.hd hc
    have hvals : Vals (xs.map fun x => V.ref x.2.1) (xs.map fun x => Value.ref x.2.1) := by
      clear hlen he hraw d
      induction xs with
      | nil => exact .nil
      | cons x xs ih => exact .cons rfl ih
    refine ⟨xs.map fun x => Value.ref x.2.1, hvals, by rw [List.length_map]; exact d.raw.len, fun E Q q => ?_⟩
    refine PySem.W.kdu_collect (PySem.KdlSrc.rawDict (prog := X.prog) (w := X.w) (es := es) (ep := ep) d.raw.ns) hh hraw (by rw [hlen]; exact d.raw.len) fun h' tk acc hk hi => ?_
    have ea : acc.toList = xs.map fun x => Value.ref x.2.1 := by
      apply List.ext_getElem?
      intro j
      by_cases hj : j < acc.size
      · have h1 : acc[j]? = some acc[j] := Array.getElem?_eq_getElem hj
        obtain ⟨hje, hv⟩ := hi.2 j _ h1
        rw [Array.getElem?_toList, h1, hv]
        have h2 : es[j]? = some es[j] := Array.getElem?_eq_getElem hje
        rw [← Array.getElem?_toList, he, List.getElem?_map] at h2
        rw [List.getElem?_map]
        cases hx : xs[j]? with
        | none => rw [hx] at h2; cases h2
        | some x => rw [hx] at h2; simp only [Option.map_some, Option.some.injEq] at h2 ⊢; rw [← h2]; rfl
      · rw [List.getElem?_eq_none (by rw [Array.length_toList]; omega), List.getElem?_eq_none (by rw [List.length_map]; have := hi.1; omega)]
    rw [ea]
    exact q h' tk hk
def encB (b : V × D) : PyData := (toPy b.2).getD .none
def rSortD (K : KX) : List V → Hp → VK → Prop := fun xs H Q => ∃ (p : Addr) (bs : List (V × D)), xs = [.ref p] ∧ SrcAt K H p (bs.map Prod.fst) ∧ (∀ b ∈ bs, Dp K.K H b.1 (encB b)) ∧ PySem.W.AllAlike (bs.map encB) ∧ SortT (bs.map encB) ∧ (∀ b ∈ bs, (encB b).depth ≤ 16) ∧
  ∀ q, H q = none → Q (.ref q) (upd H q (.lst ((bs.mergeSort (PySem.W.dataLe false encB)).map Prod.fst)))
theorem each_of {α : Type} {f : α → V} : ∀ {bs : List α} {us : List Value}, Vals (bs.map f) us → PySem.W.EachIs (fun v b => RelV (f b) v) us bs
  | [], us, h => by rw [List.map_nil] at h; cases h; exact .nil
  | b :: bs, us, h => by
    rw [List.map_cons] at h
    cases h with
    | cons h1 h2 => exact .cons h1 (each_of h2)
theorem of_each {α : Type} {f : α → V} : ∀ {bs : List α} {us : List Value}, PySem.W.EachIs (fun v b => RelV (f b) v) us bs → Vals (bs.map f) us
  | _, _, .nil => .nil
  | _, _, .cons h t => .cons h (of_each t)
theorem cr_sortD (hc : X.calm = true) (hu : X.A.units + 65 < cLine) : CallR X (.builtin "sorted") (rSortD X.kx) := by
  intro pins s σ H xs us Q I r h
  obtain ⟨p, bs, rfl, hs, hdp, hal, hk, hdep, q⟩ := h
  obtain ⟨u, rfl, rx⟩ := vals1 r
  cases rx
  obtain ⟨vs, rv, hl, col⟩ := hs.colls hc I
  have e := each_of rv
  have er : PySem.W.EachIs (fun v b => ∃ as, Reads s.heap v (encB b) as) vs bs := (PySem.W.each_mem e).mono fun v b ⟨rb, hb⟩ => Dp.reads I _ _ _ (hdp b hb) rb
  refine sorted_coll (β := V × D) (R := fun v b => RelV b.1 v) (enc := encB) col hl e er hal (fun s' hk' => ?_) fun h1 h2 tk n out k1 k2 hg ho => ?_
  · have hdd : ∀ d, d ∈ bs.map encB → X.A.in1.in1.units + d.depth < cLine := fun d hd => by
      obtain ⟨b, hb, rfl⟩ := List.mem_map.mp hd
      have := hdep b hb
      show X.A.units + 2 + _ < cLine
      omega
    have ee := PySem.W.each_map (R := fun v d => ∃ as, Reads s'.heap v d as) encB (er.mono fun v b ⟨as, q⟩ => ⟨as, PyProof.Rows.Reads.keeps hk' q⟩)
    rcases hk with hk | ⟨hk1, hk2⟩
    · exact PySem.W.SortsAt.data ee hal hk hdd
    · exact sortsAt_tups ee hal hk1 hk2 hdd
  · have I1 : Inv X pins σ H { s with heap := h1 } := I.kept (t' := s.toks) k1
    have rs := of_each ho
    have hlen : ((bs.mergeSort (PySem.W.dataLe false encB)).map Prod.fst).length ≤ sizeLine := by
      rw [List.length_map, List.length_mergeSort, ← List.length_map (f := Prod.fst), rv.length]
      exact hl
    refine ⟨.ref h1.objs.size, _, I1.laid (h' := h2) (t' := tk) k2 (Nat.le_refl _) (show ObjOk X.prog X.w _ h2 _ (.lst _) from ⟨hlen, out, n, rs, hg⟩), rfl, q _ (I1.hok.fresh (Nat.le_refl _))⟩
end

/-! ### by data -/
def insD (le : D → D → Bool) (x : D) : List D → List D
  | [] => [x]
  | y :: ys => if le x y then x :: y :: ys else y :: insD le x ys
def isortD (le : D → D → Bool) : List D → List D
  | [] => []
  | x :: xs => insD le x (isortD le xs)
def encD (d : D) : PyData := (toPy d).getD .none
def leD : D → D → Bool := PySem.W.dataLe false encD
section
variable {le : D → D → Bool}
theorem insD_mem {x y : D} : ∀ {l : List D}, y ∈ insD le x l → y = x ∨ y ∈ l
  | [], h => by rw [insD] at h; exact .inl (by simpa using h)
  | z :: zs, h => by
    rw [insD] at h
    split at h
    · rcases List.mem_cons.mp h with h | h
      · exact .inl h
      · exact .inr h
    · rcases List.mem_cons.mp h with h | h
      · exact .inr (by simp [h])
      · rcases insD_mem h with h | h
        · exact .inl h
        · exact .inr (by simp [h])
theorem insD_sorted (ht : PySem.W.TotalLe le) {x : D} : ∀ {l : List D}, l.Pairwise (fun a b => le a b = true) → (insD le x l).Pairwise (fun a b => le a b = true)
  | [], _ => by rw [insD]; simp
  | z :: zs, h => by
    rw [insD]
    rw [List.pairwise_cons] at h
    split
    · next hx =>
      rw [List.pairwise_cons, List.pairwise_cons]
      refine ⟨fun a ha => ?_, h⟩
      rcases List.mem_cons.mp ha with rfl | ha
      · exact hx
      · exact ht.trans _ _ _ hx (h.1 a ha)
    · next hx =>
      rw [List.pairwise_cons]
      refine ⟨fun a ha => ?_, insD_sorted ht h.2⟩
      rcases insD_mem ha with rfl | ha
      · rcases ht.total a z with q | q
        · exact absurd q hx
        · exact q
      · exact h.1 a ha
theorem insD_filter (ht : PySem.W.TotalLe le) {x c : D} : ∀ {l : List D}, (insD le x l).filter (PySem.W.sameRank le c) = (x :: l).filter (PySem.W.sameRank le c)
  | [] => by rw [insD]
  | z :: zs => by
    rw [insD]
    split
    · rfl
    · next hx =>
      have hne : ¬ (PySem.W.sameRank le c x = true ∧ PySem.W.sameRank le c z = true) := by
        rintro ⟨h1, h2⟩
        unfold PySem.W.sameRank at h1 h2
        rw [Bool.and_eq_true] at h1 h2
        exact hx (ht.trans _ _ _ h1.2 h2.1)
      have ih := insD_filter ht (x := x) (c := c) (l := zs)
      rw [List.filter_cons, ih]
      by_cases hz : PySem.W.sameRank le c z = true
      · have hxn : PySem.W.sameRank le c x = false := by
          cases q : PySem.W.sameRank le c x with
          | false => rfl
          | true => exact absurd ⟨q, hz⟩ hne
        simp [List.filter_cons, hz, hxn]
      · simp [List.filter_cons, hz]
theorem isortD_eq (ht : PySem.W.TotalLe le) (l : List D) : isortD le l = l.mergeSort le := by
  have h1 : (isortD le l).Pairwise (fun a b => le a b = true) := by
    induction l with
    | nil => exact .nil
    | cons x xs ih => exact insD_sorted ht ih
  have h2 : ∀ c, (isortD le l).filter (PySem.W.sameRank le c) = l.filter (PySem.W.sameRank le c) := by
    intro c
    clear h1
    induction l with
    | nil => rfl
    | cons x xs ih =>
      rw [isortD, insD_filter ht, List.filter_cons, List.filter_cons, ih]
  exact PySem.W.sort_unique ht h1 h2
end

def alikeB (ps : List PyData) : Bool := ps.all fun p => ps.all fun q => PySem.W.alike p q
def sortOkB (ps : List PyData) : Bool := (ps.all fun p => match p with | .tuple (_ :: _) => true | _ => false) || ((ps.all fun p => match p with | .none => false | .tuple _ => false | _ => true) || ps.all fun p => match p with | .tuple _ => true | _ => false)
def sortB (ds : List D) : Option (List D) := match toPys ds with
  | some ps => if alikeB ps && sortOkB ps && (ps.all fun p => decide (p.depth ≤ 16)) then some (isortD leD ds) else none
  | none => none
def keysOf : D → Option (List D)
  | .lst ds => some ds
  | .tup ds => some ds
  | .dit ds => some (ds.map Prod.fst)
  | _ => none
def gSorted : List D → Option D
  | [d] => match keysOf d with
    | some ds => (sortB ds).map .lst
    | none => none
  | _ => none
theorem toPys_map : ∀ {ds : List D} {ps : List PyData}, toPys ds = some ps → ps = ds.map encD ∧ ∀ d ∈ ds, toPy d = some (encD d)
  | [], ps, e => by cases e; exact ⟨rfl, fun d h => by cases h⟩
  | d :: ds, ps, e => by
    obtain ⟨p, ps', h1, h2, rfl⟩ := toPys_cons e
    obtain ⟨i1, i2⟩ := toPys_map h2
    have hd : encD d = p := by unfold encD; rw [h1]; rfl
    refine ⟨by rw [i1, List.map_cons, hd], fun x hx => ?_⟩
    rcases List.mem_cons.mp hx with rfl | hx
    · rw [hd]; exact h1
    · exact i2 x hx
section
variable {cls : Nat → Addr} {own : Nat → Bool} {K : KX} {G : Gh} {al : List Addr} {m : MS} {σ : St} {H : Hp}
theorem srcOf {x : V} {d : D} {ds : List D} (r : Rst K cls own G al m σ H) (h : CR K H (Zof G) al x d) (e : keysOf d = some ds) : ∃ p ys, x = .ref p ∧ SrcAt K H p ys ∧ DVs K (Zof G) al ys ds := by
  unfold keysOf at e
  split at e
  · cases e
    obtain ⟨a, us, rfl, h1, r1⟩ := h
    exact ⟨a, us, rfl, .inl (.inl (.inl h1)), r1⟩
  · cases e
    obtain ⟨a, us, rfl, h1, r1⟩ := h.tup
    exact ⟨a, us, rfl, .inr (.inl (Same.tupS r.zh h1)), r1⟩
  · cases e
    obtain ⟨a, o, xs, vs, rfl, h1, h2, h3, h4, h5, h6⟩ := h
    exact ⟨a, _, rfl, .inr (.inr ⟨o, xs, dnat_of r h1 h2 h3 h4, rfl⟩), h3⟩
  · cases e
theorem DVs.zip {Z : Hp} : ∀ {vs : List V} {ds : List D}, DVs K Z al vs ds → (vs.zip ds).map Prod.fst = vs ∧ (vs.zip ds).map Prod.snd = ds ∧ ∀ b ∈ vs.zip ds, DV K Z al b.1 b.2
  | _, _, .nil => ⟨rfl, rfl, fun b h => by cases h⟩
  | _, _, .cons h r => by
    obtain ⟨i1, i2, i3⟩ := DVs.zip r
    refine ⟨by simp [i1], by simp [i2], fun b hb => ?_⟩
    rcases List.mem_cons.mp hb with rfl | hb
    · exact h
    · exact i3 b hb
theorem DVs.of_pairs {Z : Hp} : ∀ {bs : List (V × D)}, (∀ b ∈ bs, DV K Z al b.1 b.2) → DVs K Z al (bs.map Prod.fst) (bs.map Prod.snd)
  | [], _ => .nil
  | b :: bs, h => .cons (h b (List.mem_cons_self ..)) (DVs.of_pairs fun x hx => h x (List.mem_cons_of_mem _ hx))
theorem ok_sorted : FnOkF K cls own (rSortD K) gSorted := by
  intro G al m σ H xs da d Q r hx e k
  unfold gSorted at e
  split at e
  case h_2 => cases e
  next d0 =>
  split at e
  case h_2 => cases e
  next ds e0 =>
  unfold sortB at e
  split at e
  case h_2 => cases e
  next ps e1 =>
  split at e
  case isFalse => cases e
  next hok =>
  cases e
  obtain ⟨x, rfl, hc⟩ := hx.one
  obtain ⟨p, ys, rfl, hsrc, dv⟩ := srcOf r hc e0
  rw [Bool.and_eq_true, Bool.and_eq_true] at hok
  obtain ⟨⟨hal, hso⟩, hdp⟩ := hok
  obtain ⟨hps, hpy⟩ := toPys_map e1
  obtain ⟨z1, z2, z3⟩ := dv.zip
  have henc : (ys.zip ds).map encB = ps := by
    rw [hps, ← z2, List.map_map, z2]
    rfl
  refine ⟨p, ys.zip ds, rfl, by rw [z1]; exact hsrc, fun b hb => ?_, ?_, ?_, fun b hb => ?_, fun q hq => ?_⟩
  · have hb2 : b.2 ∈ ds := by rw [← z2]; exact List.mem_map.mpr ⟨b, hb, rfl⟩
    exact (z3 b hb).dp r.zh (hpy _ hb2)
  · rw [henc]
    intro d1 h1 d2 h2
    exact List.all_eq_true.mp (List.all_eq_true.mp hal d1 h1) d2 h2
  · rw [henc]
    unfold sortOkB at hso
    rw [Bool.or_eq_true, Bool.or_eq_true] at hso
    rcases hso with h | h | h
    · refine .inl (.inl fun d1 h1 => ?_)
      have := List.all_eq_true.mp h d1 h1
      split at this
      · exact ⟨_, _, rfl⟩
      · cases this
    · refine .inl (.inr fun d1 h1 => ?_)
      have := List.all_eq_true.mp h d1 h1
      refine ⟨fun z => ?_, fun xs z => ?_⟩ <;> (subst z; cases this)
    · have ht : ∀ d1 ∈ ps, ∃ xs, d1 = .tuple xs := fun d1 h1 => by
        have := List.all_eq_true.mp h d1 h1
        split at this
        · exact ⟨_, rfl⟩
        · cases this
      cases hh : ps.all headT with
      | false => exact .inr ⟨ht, hh⟩
      | true =>
        refine .inl (.inl fun d1 h1 => ?_)
        have h2 := List.all_eq_true.mp hh d1 h1
        obtain ⟨xs, rfl⟩ := ht d1 h1
        cases xs with
        | nil => cases h2
        | cons x r => exact ⟨x, r, rfl⟩
  · have hb2 : encB b ∈ ps := by rw [← henc]; exact List.mem_map.mpr ⟨b, hb, rfl⟩
    exact of_decide_eq_true (List.all_eq_true.mp hdp _ hb2)
  · have hs : ((ys.zip ds).mergeSort (PySem.W.dataLe false encB)).map Prod.snd = isortD leD ds := by
      rw [isortD_eq (le := leD) (PySem.W.sortLe_total _ false _)]
      have hm := PySem.W.sort_maps (r := PySem.W.dataLe false encB) (s := leD) (l := ys.zip ds) Prod.snd (fun a _ b _ => rfl)
      rw [hm, z2]
    rw [← hs] at k
    exact k.lst r (DVs.of_pairs fun b hb => z3 b ((List.mergeSort_perm _ _).mem_iff.mp hb)) hq
end
end MI

namespace MI
open PySem PySem.Spec L2

def tyN (K : KX) (x : V) (H : Hp) : Prop := ∃ (a : Addr) (o : Obj) (xs : XS), x = .ref a ∧ H a = some (hoN a o) ∧ RawN K a o xs
section
variable {X : Cx} {o e : Expr} {es : List Expr} {to : TE} {t : TA} {name : Str} {apos cpos : Pos} {id : String} {r : V → List V → Hp → VK → Prop}
theorem tyN_is {pins : List (Addr × Obj)} {σ : St} {H : Hp} {s : Shared} {x : V} {v : Value} (I : Inv X pins σ H s) (rv : RelV x v) (ty : tyN X.kx x H) : s.TypeIs v "dict" ∧ ∀ a, v = .ref a → ∃ ob, s.heap.get? a = some ob ∧ ob.dict = none := by
  obtain ⟨a, ob, xs, rfl, ha, raw⟩ := ty
  cases rv
  obtain ⟨ho, _⟩ := I.hok a _ ha
  exact ⟨⟨ob, ho, raw.exact'.1⟩, fun b e => by cases e; exact ⟨ob, ho, raw.exact'.2.1⟩⟩
/-- a method of such a dict -/
theorem pe_bmN (slot : Slot "dict" name id) (hty : typeOf (.builtin id) = pure (.type "method_descriptor")) (hm : MtR X id r) (ho : PE X o to) (ha : PA X (e :: es) t)
    (hbase : attributeBase o name X.env (eval o X.env) = eval o X.env := by rfl)
    (hfew : ((backTo cpos (starEach (e :: es) X.env)).all (fun x => !x.1) && (backToKw cpos (keywordEach [] X.env)).all (fun x => x.1.isSome)
      && decide ((e :: es).length + ([] : List Keyword).length + (if ([] : List Keyword).isEmpty then 0 else 1) < 30)) = true := by rfl)
    (hline : (apos.endLine == cpos.line) = true := by rfl) (hs : starEach (e :: es) X.env = (false, eval e X.env) :: starEach es X.env := by rfl) (hplain : (backTo cpos (starEach es X.env)).any (·.1) = false := by rfl) :
    PE X (.Call (.Attribute o name apos) (e :: es) [] cpos) (fun σ H Q => to σ H fun x H1 => tyN X.kx x H1 ∧ t σ H1 fun xs H2 => r x xs H2 Q) := by
  refine ⟨fun pins s σ H Q I h => ?_⟩
  refine wpAny_Call_method_late hbase hfew hline rfl (thn (ho.run pins s σ H _ I h) fun v s1 ⟨x, H1, I1, r1, ty, q1⟩ => ?_)
  obtain ⟨h1, h2⟩ := tyN_is I1 r1 ty
  refine ⟨"dict", id, PySem.F.plainAttrs_dict, slot, hty, h1, h2, ?_⟩
  have hA := ha.run cpos pins s1 σ H1 _ I1 q1
  rw [hs] at hA ⊢
  refine Calls.callWith_builtin (by show (false || (backTo cpos (starEach es X.env)).any (·.1)) = false; rw [hplain] <;> rfl) (Calls.evalArgs_plain ?_)
  exact thn hA fun us s2 ⟨vs, H2, I2, r2, q2⟩ => hm pins s2 σ H2 x vs v us Q I2 r1 r2 q2
def rPopN (K : KX) : V → List V → Hp → VK → Prop := fun x xs H Q => ∃ (a b : Addr) (ob : Obj) (ys : XS) (nk : NestedKey) (p : Addr × Value) (v : V), x = .ref a ∧ xs = [.ref b] ∧ DNat K H a ob ys ∧ KAt K.K H (.ref b) nk ∧ nk.depth ≤ 8 ∧ atKey ys nk = some p ∧ RelV v p.2 ∧
  ∀ o', RawN K a o' (withoutH ys nk) → Q v (upd H a (hoN a o'))
theorem mt_popN (hu : X.A.units + 65 < cLine) : MtR X "dict.pop" (rPopN X.kx) := by
  intro pins s σ H x xs v us Q I rx rxs h
  obtain ⟨a, b, ob, ys, nk, p, z, rfl, rfl, d, kb, hd, hp, rz, q⟩ := h
  cases rx
  obtain ⟨u1, rfl, r1⟩ := vals1 rxs
  cases r1
  refine call_pop_heap (more := []) (.inl rfl) (PySem.F.args_dict_pop_2 _ _) (room8 hu) ⟨KAt.is I nk _ _ kb rfl, hd⟩ d.raw.ns (d.dict I) hp (fun h' dd' hs => ?_) d.raw.len
  obtain ⟨o', es, ep, hq, h2, h3, h4, _, h5⟩ := dd'
  have raw : RawN X.kx a o' (withoutH ys nk) := ⟨Nat.le_trans (withoutH_length ys nk) d.raw.len, d.raw.ns, h2, ⟨es, ep, h3, h4⟩, h5, fun x hx => d.raw.dp x (List.mem_filter.mp hx).1⟩
  exact ⟨z, _, d_write I (by rw [d.at_]; exact True.intro) hs ⟨o', hq⟩ (ext_ok hq), rz, q o' raw⟩
end
/-! ### by data -/
def ddelN (ds : List (D × D)) (k : D) : List (D × D) := ds.filter fun q => !kEqN q.1 k
theorem ddelN_at {K : KX} {Z : Hp} {al : List Addr} {x : D} {nk : NestedKey} (hx : toNK x = some nk) : ∀ {xs : XS} {ds : List (D × D)} {vs : List V}, DVs K Z al (xs.map fun x => V.ref x.2.1) (ds.map Prod.fst) → toNKs (ds.map Prod.fst) = some (xs.map (·.1)) → Vals vs (xs.map (·.2.2)) → DVs K Z al vs (ds.map Prod.snd) →
    ∃ vs', DVs K Z al ((withoutH xs nk).map fun x => V.ref x.2.1) ((ddelN ds x).map Prod.fst) ∧ toNKs ((ddelN ds x).map Prod.fst) = some ((withoutH xs nk).map (·.1)) ∧ Vals vs' ((withoutH xs nk).map (·.2.2)) ∧ DVs K Z al vs' ((ddelN ds x).map Prod.snd)
  | [], [], _, _, _, _, _ => ⟨[], .nil, rfl, .nil, .nil⟩
  | [], (_, _) :: _, _, h, _, _, _ => by cases h
  | _ :: _, [], _, h, _, _, _ => by cases h
  | (k0, b, u) :: xs, (dk, dv) :: ds, vs, hk, e, rv, r => by
    obtain ⟨p, ps, h1, h2, e⟩ := toNKs_cons e
    have e : k0 :: xs.map (·.1) = p :: ps := e
    injection e with e1 e2
    rw [← e1] at h1
    rw [← e2] at h2
    have h1 : toNK dk = some k0 := h1
    cases hk with
    | cons k1 k2 =>
    cases rv with
    | cons rv1 rv2 =>
      cases r with
      | cons r1 r2 =>
        obtain ⟨vs', i1, i2, i3, i4⟩ := ddelN_at hx k2 h2 rv2 r2
        have hkq : kEqN dk x = decide (k0 = nk) := by unfold kEqN; rw [h1, hx, NestedKey.decide_eq]
        by_cases h : k0 = nk
        · have e1 : ddelN ((dk, dv) :: ds) x = ddelN ds x := List.filter_cons_of_neg (by simp [hkq, h])
          have e2 : withoutH ((k0, b, u) :: xs) nk = withoutH xs nk := List.filter_cons_of_neg (by simp [h])
          rw [e1, e2]
          exact ⟨vs', i1, i2, i3, i4⟩
        · have e1 : ddelN ((dk, dv) :: ds) x = (dk, dv) :: ddelN ds x := List.filter_cons_of_pos (by simp [hkq, h])
          have e2 : withoutH ((k0, b, u) :: xs) nk = (k0, b, u) :: withoutH xs nk := List.filter_cons_of_pos (by simp [h])
          rw [e1, e2]
          refine ⟨_ :: vs', .cons k1 i1, ?_, .cons rv1 i3, .cons r1 i4⟩
          rw [List.map_cons, toNKs, h1, i2]
          rfl
/-- slot i's dict loses a key: its value -/
def ePopN (i : Nat) (fs : Den (List Hd)) : Den D := fun m => match m.sl[i]? with
  | some (some (.dit _)) => match fs m with
    | .ok [h] m1 => match m1.sl[i]?, look h m1 with
      | some (some (.dit ds)), some k => if isNK k then match dgetN ds k with
          | some v => .ok v { m1 with sl := m1.sl.set i (some (.dit (ddelN ds k))) }
          | none => .bad
        else .bad
      | _, _ => .bad
    | _ => .bad
  | _ => .bad
section
variable {cls : Nat → Addr} {own : Nat → Bool} {X : Cx} {a : Expr} {apos cpos npos : Pos} {fs : Den (List Hd)} {i : Nat} {x : Str}
theorem CO.dit {K : KX} {Z : Hp} {al : List Addr} {a : Addr} {o : HO} {ds : List (D × D)} (c : CO K Z al a o (.dit ds)) : ∃ (ob : Obj) (xs : XS) (vs : List V), o = hoN a ob ∧ RawN K a ob xs ∧ DVs K Z al (xs.map fun x => V.ref x.2.1) (ds.map Prod.fst) ∧ toNKs (ds.map Prod.fst) = some (xs.map (·.1)) ∧ Vals vs (xs.map (·.2.2)) ∧ DVs K Z al vs (ds.map Prod.snd) := by
  cases o with
  | ext φ =>
    obtain ⟨ob, xs, vs, rfl, q⟩ := c
    exact ⟨ob, xs, vs, rfl, q⟩
  | _ => exact (show False from c).elim
theorem se_popN (hu : X.A.units + 65 < cLine) (hN : X.N[i]? = some x) (hv : Vis X.env.scope x) (ho : own i = true) (ha : SHs cls own X [a] fs)
    (hd : (x == ("__debug__" : Str)) = false := by decide) (hcd : (x == ("__classdict__" : Str)) = false := by decide)
    (hbase : attributeBase (.Name x npos) "pop" X.env (eval (.Name x npos) X.env) = eval (.Name x npos) X.env := by rfl)
    (hfew : ((backTo cpos (starEach [a] X.env)).all (fun x => !x.1) && (backToKw cpos (keywordEach [] X.env)).all (fun x => x.1.isSome)
      && decide ([a].length + ([] : List Keyword).length + (if ([] : List Keyword).isEmpty then 0 else 1) < 30)) = true := by rfl)
    (hline : (apos.endLine == cpos.line) = true := by rfl) (hs : starEach [a] X.env = (false, eval a X.env) :: starEach [] X.env := by rfl) (hplain : (backTo cpos (starEach [] X.env)).any (·.1) = false := by rfl) :
    SE cls own X (.Call (.Attribute (.Name x npos) "pop" apos) [a] [] cpos) (ePopN i fs) := by
  refine pe_imp (pe_bmN PySem.F.slot_dict_pop PySem.F.type_dict_pop (mt_popN hu) (pe_var (pos := npos) hN hv hd hcd) ha hbase hfew hline hs hplain) fun σ H Q q => ?_
  obtain ⟨G, al, m, d, m', r, e, k⟩ := q
  unfold ePopN at e
  split at e
  case h_2 => cases e
  next ds0 e0 =>
  split at e
  case h_2 => cases e
  next h m1 e1 =>
  split at e
  case h_2 => cases e
  next ds dk e2 l2 =>
  split at e
  case isFalse => cases e
  next hk =>
  split at e
  case h_2 => cases e
  next dv e3 =>
  cases e
  obtain ⟨p, o0, s0, g0, c0⟩ := r.own i _ e0 ho
  obtain ⟨ob0, xs0, vs0, rfl, raw0, _⟩ := c0.dit
  refine ⟨.ref p, s0, ⟨p, ob0, xs0, rfl, r.hst.gh _ _ _ g0, raw0⟩, G, al, m, [h], m1, r, e1, fun G1 al1 vs H1 ev1 r1 hv1 => ?_⟩
  obtain ⟨p', o1, s1, g1, c1⟩ := r1.own i _ e2 ho
  rw [s0] at s1; cases s1
  obtain ⟨ob, xs, ws, rfl, q2, q3, q4, q5, q6⟩ := c1.dit
  cases hv1 with
  | cons hv2 hv3 =>
    cases hv3
    have hx := look_cr r1 hv2 l2
    obtain ⟨es, nk, rfl, h1, h2⟩ := isNK_ok hk
    obtain ⟨b, rfl⟩ := hx.tref
    obtain ⟨i1, _⟩ := dgetN_at h1 q4 q5 q6
    obtain ⟨pp, v, hat, rv, hdv⟩ := i1 _ e3
    refine ⟨p, b, ob, xs, nk, pp, v, rfl, rfl, dnat_of r1 (r1.hst.gh _ _ _ g1) q2 q3 q4, hx.kat r1.zh h1, h2, hat, rv, fun o' raw => ?_⟩
    obtain ⟨vs', j1, j2, j3, j4⟩ := ddelN_at h1 q3 q4 q5 q6
    obtain ⟨ev2, r2⟩ := r1.write e2 ho s0 g1 (o' := hoN p o') (d' := .dit (ddelN ds (.tup es))) ⟨o', _, vs', rfl, raw, j1, j2, j3, j4⟩
    exact k _ _ _ _ (ev1.trans ev2) r2 (hdv.ev ev2)
end
end MI

namespace MI
open PySem PySem.Spec L2

/-- the module's name x is the datum d -/
def GC (K : KX) (mg : Str → Option Value) (x : Str) (d : D) : Prop := ∃ v u, mg x = some u ∧ RelV v u ∧ DV K (fun _ => none) [] v d
def datB (K : PySem.W.Frag) : Nat → Value → D → Bool
  | n + 1, .ref a, .tup ds => match K.lookup a with
    | some ⟨.type c, none, .seq its _, _⟩ => decide (c = "tuple") && (decide (its.size ≤ sizeLine) && (decide (its.toList.length = ds.length) && (its.toList.zip ds).all fun p => datB K n p.1 p.2))
    | _ => false
  | _, .none, .non => true
  | _, .bool b, .bl c => b == c
  | _, .int i _, .int j => decide (i = j)
  | _, .str x _, .str y => decide (x = y)
  | _, _, _ => false
theorem datB_ok {P : Program} {w : World} {K : PySem.W.Frag} : ∀ (n : Nat) (u : Value) (d : D), datB K n u d = true → ∃ v, RelV v u ∧ DV ⟨K, P, w⟩ (fun _ => none) [] v d := by
  intro n
  induction n with
  | zero =>
    intro u d h
    unfold datB at h
    split at h
    · next e => cases e
    · exact ⟨.non, rfl, .non⟩
    · next b c => rw [beq_iff_eq] at h; subst h; exact ⟨.bl b, rfl, .bl b⟩
    · next i t j => have := of_decide_eq_true h; subst this; exact ⟨.int i, ⟨t, rfl⟩, .int i⟩
    · next x t y => have := of_decide_eq_true h; subst this; exact ⟨.str x, ⟨t, rfl⟩, .str x⟩
    · cases h
  | succ n ih =>
    intro u d h
    unfold datB at h
    split at h
    · next k a ds e =>
      cases e
      split at h
      · next c its m sl q =>
        simp only [Bool.and_eq_true, decide_eq_true_eq] at h
        obtain ⟨h1, h2, h3, h4⟩ := h
        have key : ∀ (us : List Value) (ds : List D), us.length = ds.length → ((us.zip ds).all fun p => datB K n p.1 p.2) = true → ∃ vs, Vals vs us ∧ DVs ⟨K, P, w⟩ (fun _ => none) [] vs ds := by
          intro us
          induction us with
          | nil => intro ds hl _; cases ds with
            | nil => exact ⟨[], .nil, .nil⟩
            | cons _ _ => cases hl
          | cons u us ihu => intro ds hl ha; cases ds with
            | nil => cases hl
            | cons d ds =>
              rw [List.zip_cons_cons, List.all_cons, Bool.and_eq_true] at ha
              obtain ⟨v, r1, r2⟩ := ih _ _ ha.1
              obtain ⟨vs, r3, r4⟩ := ihu ds (by simpa using hl) ha.2
              exact ⟨v :: vs, .cons r1 r3, .cons r2 r4⟩
        obtain ⟨vs, r1, r2⟩ := key _ _ h3 h4
        exact ⟨.ref a, rfl, .tup (.inr ⟨_, its, m, rfl, q, congrArg Value.type h1, rfl, h2, r1⟩) r2⟩
      · cases h
    · exact ⟨.non, rfl, .non⟩
    · next b c => rw [beq_iff_eq] at h; subst h; exact ⟨.bl b, rfl, .bl b⟩
    · next i t j => have := of_decide_eq_true h; subst this; exact ⟨.int i, ⟨t, rfl⟩, .int i⟩
    · next x t y => have := of_decide_eq_true h; subst this; exact ⟨.str x, ⟨t, rfl⟩, .str x⟩
    · cases h
def gcB (gc : List (Str × D)) (K : PySem.W.Frag) : Bool := gc.all fun q => match PySem.W.nsIn K mainGlobals q.1 with
  | some (some u) => datB K 8 u q.2
  | _ => false
theorem gc_ok {P : Program} {w : World} {K : PySem.W.Frag} {h : Heap} {mg : Str → Option Value} {gc : List (Str × D)} (X : K.In h) (G : h.Ns mainGlobals mg) (c : gcB gc K = true) (i : Nat) {x : Str} {d : D} (hq : gc[i]? = some (x, d) := by rfl) : GC ⟨K, P, w⟩ mg x d := by
  have := List.all_eq_true.mp c _ (List.mem_of_getElem? hq)
  split at this
  · next u e =>
    obtain ⟨v, r1, r2⟩ := datB_ok (P := P) (w := w) 8 u d this
    exact ⟨v, u, PySem.W.mg_of X G e, r1, r2⟩
  · cases this
/-! ### the hook -/
abbrev AlM : Type := He.AlD × Bool
def obsM (n : Nat) (fa : List He.Fa) (fn : List He.DefD) (ex : PySem.W.Frag → Bool) (g : Addr → Option Obj) : AlM := (He.obsD fa fn (He.frG g (He.asD g n)), ex (He.frG g (He.asD g n)))
def hookM (n : Nat) (fa : List He.Fa) (fn : List He.DefD) (ex : PySem.W.Frag → Bool) : PySem.W.Hook where
  α := AlM
  obs := fun s => obsM n fa fn ex s.heap.get?
  val := fun _ => (He.valD fn, true)
  says := fun _ h => ∃ K : PySem.W.Frag, K.In h ∧ He.SaysD fa fn K ∧ ex K = true
  of := fun _ _ e => ⟨_, He.frG_in, congrArg Prod.fst e, congrArg Prod.snd e⟩
  keeps := fun _ _ _ ⟨K, hK, c, d⟩ k => ⟨K, PySem.W.Frag.In.keeps hK k, c, d⟩
theorem obsM_eq {n : Nat} {fa : List He.Fa} {fn : List He.DefD} {ex : PySem.W.Frag → Bool} {g : Addr → Option Obj} {s : Shared} (h : ∀ a, g a = s.heap.get? a) : obsM n fa fn ex g = (hookM n fa fn ex).obs s := by
  have e : g = s.heap.get? := funext h
  rw [e]
  rfl
/-! ### short forms -/
section
variable {cls : Nat → Addr} {own : Nat → Bool} {X : Cx} {pos : Pos} {i : Nat} {x : Str} {d : D}
theorem xv (hN : X.N[i]? = some x := by rfl) (hv : Vis X.env.scope x := by first | exact .inl rfl | exact .inr (.inl rfl) | exact .inr (.inr rfl)) (ho : own i = false := by rfl) (hd : (x == ("__debug__" : Str)) = false := by decide) (hcd : (x == ("__classdict__" : Str)) = false := by decide) :
    SE cls own X (.Name x pos) (eVar i) := se_var hN hv ho hd hcd
theorem xs (hN : X.N[i]? = some x := by rfl) (hv : Vis X.env.scope x := by first | exact .inl rfl | exact .inr (.inl rfl) | exact .inr (.inr rfl)) (ho : own i = true := by rfl) (hd : (x == ("__debug__" : Str)) = false := by decide) (hcd : (x == ("__classdict__" : Str)) = false := by decide) :
    SH cls own X (.Name x pos) (hSlot i) := sh_slot hN hv ho hd hcd
theorem xg (g : GC X.kx X.mg x d) (hg : Gl X x := by rfl) (hdb : (x == ("__debug__" : Str)) = false := by decide) : SE cls own X (.Name x pos) (eC d) := by
  obtain ⟨v, u, h1, h2, h3⟩ := g
  exact se_glob hg h1 h2 h3 hdb
end
theorem bt_len : bootBuiltins "len" = some (.builtin "len") := by decide +kernel
theorem bt_sorted : bootBuiltins "sorted" = some (.builtin "sorted") := by decide +kernel
theorem bt_sum : bootBuiltins "sum" = some (.builtin "sum") := by decide +kernel
theorem bt_all : bootBuiltins "all" = some (.builtin "all") := by decide +kernel
theorem bt_any : bootBuiltins "any" = some (.builtin "any") := by decide +kernel
theorem bt_abs : bootBuiltins "abs" = some (.builtin "abs") := by decide +kernel
theorem bt_max : bootBuiltins "max" = some (.builtin "max") := by decide +kernel
theorem bt_min : bootBuiltins "min" = some (.builtin "min") := by decide +kernel
theorem bt_int : bootBuiltins "int" = some (.type "int") := by decide +kernel
theorem bt_tuple : bootBuiltins "tuple" = some (.type "tuple") := by decide +kernel
theorem bt_list : bootBuiltins "list" = some (.type "list") := by decide +kernel
/-- a def of the program that keeps what fn says -/
structure DefOk (P : Program) (w : World) (K : PySem.W.Frag) (mg : Str → Option Value) (base : Heap) (cls : Nat → Addr) (k : Nat) (x : Str) (f : Addr) (fd : FuncData) (ps : List Str) (fn : Fn) : Prop where
  ok : FnOk P w K mg base CX0 k f fd ps (SpD ⟨K, P, w⟩ cls ps.length fn)
  gl : mg x = some (.ref f)
  kp : PySem.W.keepIn K (.ref f) = true
section
variable {cls : Nat → Addr} {own : Nat → Bool} {X : Cx} {k j n : Nat} {f : Addr} {fd : FuncData} {ps ks : List Str} {fn : Fn} {x : Str} {p pos : Pos} {e : Expr} {es : List Expr} {fs fk : Den (List Hd)} {kws : List Keyword} {sp : List Src} {dvs : List V} {dds : List D} {mv : List Value}
theorem xc (F : DefOk X.prog X.w X.K X.mg X.base cls j x f fd ps fn) (hr : Room k X.A) (hb : KBn X.K fd ps n ks (fun us ws => arr sp us mv ws) (fun vs zs => arr sp vs dvs zs))
    (hdd : DVs X.kx (fun _ => none) [] dvs dds) (ha : SHs cls own X (e :: es) fs) (hkw : SKs cls own X kws fk) (hnp : ∀ vs zs : List V, vs.length = n → zs.length = ks.length → (arr sp vs dvs zs).length = ps.length) (hl1 : ∀ m hs m', fs m = .ok hs m' → hs.length = n) (hl2 : ∀ m hs m', fk m = .ok hs m' → hs.length = ks.length)
    (hjk : j ≤ k := by decide) (hg : Gl X x := by rfl)
    (hall : (backToKw pos (keywordEach kws X.env)).all (·.1.isSome) = true := by rfl) (hks : (backToKw pos (keywordEach kws X.env)).filterMap (·.1) = ks := by rfl)
    (hdb : (x == ("__debug__" : Str)) = false := by decide) (he : starEach (e :: es) X.env = (false, eval e X.env) :: starEach es X.env := by rfl)
    (hpl : ((backTo pos (starEach (e :: es) X.env)).any (·.1) || (backToKw pos (keywordEach kws X.env)).any (·.1.isNone)) = false := by rfl) :
    SE cls own X (.Call (.Name x p) (e :: es) kws pos) (eCallK fn sp dds (aVals fs) (aVals fk)) := se_callK F.ok (hr.mono hjk) hg F.gl F.kp hb hdd ha hkw hnp hl1 hl2 hall hks hdb he hpl
theorem xc0 (F : DefOk X.prog X.w X.K X.mg X.base cls j x f fd ps fn) (hr : Room k X.A) (hb : KBn X.K fd ps 0 ks (fun us ws => arr sp us mv ws) (fun vs zs => arr sp vs dvs zs))
    (hdd : DVs X.kx (fun _ => none) [] dvs dds) (hkw : SKs cls own X kws fk) (hnp : ∀ vs zs : List V, vs.length = 0 → zs.length = ks.length → (arr sp vs dvs zs).length = ps.length) (hl2 : ∀ m hs m', fk m = .ok hs m' → hs.length = ks.length)
    (hjk : j ≤ k := by decide) (hg : Gl X x := by rfl)
    (hall : (backToKw pos (keywordEach kws X.env)).all (·.1.isSome) = true := by rfl) (hks : (backToKw pos (keywordEach kws X.env)).filterMap (·.1) = ks := by rfl)
    (hdb : (x == ("__debug__" : Str)) = false := by decide) (hpl : ((backTo pos (starEach [] X.env)).any (·.1) || (backToKw pos (keywordEach kws X.env)).any (·.1.isNone)) = false := by rfl) :
    SE cls own X (.Call (.Name x p) [] kws pos) (eCallK fn sp dds (aVals aNil) (aVals fk)) := se_callK0 F.ok (hr.mono hjk) hg F.gl F.kp hb hdd hkw hnp hl2 hall hks hdb hpl
end
end MI

namespace MI
open PySem PySem.Spec L2
def gAddL : D → D → Option D
  | .lst xs, .lst ys => if fitL (xs.length + ys.length) then some (.lst (xs ++ ys)) else none
  | _, _ => none
section
variable {cls : Nat → Addr} {own : Nat → Bool} {K : KX}
theorem ok_addL : OpOkF K cls own (rAdd K.K) gAddL := by
  intro G al m σ H x y da db d Q r hx hy e k
  unfold gAddL at e
  split at e
  · next xs ys =>
    split at e
    · next hf =>
      cases e
      obtain ⟨a, us, rfl, h1, r1⟩ := hx
      obtain ⟨b, ws, rfl, h2, r2⟩ := hy
      exact .inr (.inr (.inr ⟨a, b, us, ws, rfl, rfl, h1, h2, by rw [r1.length, r2.length]; exact fitL_le hf, fun p hp => k.lst r (r1.append r2) hp⟩))
    · cases e
  · cases e
end
/-- the law's start: the script is data -/
theorem law_start {K : PySem.W.Frag} {P : Program} {w : World} {cls : Nat → Addr} {H : Hp} {a : Addr} {ns : List Int} {fn : Fn} {E : XK} (hS : SqL K H a (ns.map V.int)) (h : ∃ st, fn [.scr ns] [] = some (.bl true, st)) :
    SpD ⟨K, P, w⟩ cls 1 fn [.ref a] H (fun v _ => v = .bl true) E := by
  obtain ⟨st, h⟩ := h
  let G : Gh := fun b => if b = a then (H a).map fun o => (.frz, o) else none
  have hz : Zof G a = H a := by
    show (match (if a = a then (H a).map fun o => (Tag.frz, o) else none) with
      | some (.frz, o) => some o
      | _ => none) = H a
    rw [if_pos rfl]
    cases H a <;> rfl
  refine ⟨rfl, G, [], [.scr ns], [], .bl true, st, ⟨fun b t o e => ?_, rfl, fun n o e => by simp at e⟩, .cons (.scr ?_) .nil, h, fun G' al' v H' _ _ dv => by cases dv; rfl⟩
  · have e : (if b = a then (H a).map fun o => (Tag.frz, o) else none) = some (t, o) := e
    split at e
    · next hb =>
      subst hb
      cases q : H b with
      | none => rw [q] at e; cases e
      | some u => rw [q] at e; cases e; rfl
    · cases e
  · rcases hS with (h | ⟨u, h⟩) | h
    · exact .inl (.inl (hz.trans h))
    · exact .inl (.inr ⟨u, hz.trans h⟩)
    · exact .inr h
end MI

namespace MI
open PySem PySem.Spec L2

section
variable {K : KX} {cls : Nat → Addr} {own : Nat → Bool} {G : Gh} {al : List Addr} {m : MS} {σ : St} {H : Hp}
/-- a new list is put into the store -/
theorem Rst.share {p : Addr} {xs : List V} {ds : List D} (r : Rst K cls own G al m σ H) (hp : H p = some (.lst xs)) (hn : G p = none) (c : DVs K (Zof G) al xs ds) :
    Ev G al (putG G p (.st m.st.length) (.lst xs)) (al ++ [p]) ∧ Rst K cls own (putG G p (.st m.st.length) (.lst xs)) (al ++ [p]) { m with st := m.st ++ [.lst ds] } σ H := by
  have ne : ∀ {b x}, G b = some x → b ≠ p := fun e z => by subst z; rw [hn] at e; cases e
  have ev : Ev G al (putG G p (.st m.st.length) (.lst xs)) (al ++ [p]) := ⟨fun a o e => by rw [putG_ne (ne e)]; exact e, fun a o e => by rw [putG_ne (ne e)]; exact e, List.prefix_append _ _⟩
  refine ⟨ev, ⟨fun b t u e => ?_, ?_, fun n ob e => ?_⟩, r.len, fun i d e ho => ?_, fun i d e ho => ?_⟩
  · by_cases hb : b = p
    · subst hb; rw [putG_same] at e; cases e; exact hp
    · rw [putG_ne hb] at e; exact r.hst.gh b t u e
  · rw [List.length_append, List.length_append, r.hst.len]; rfl
  · by_cases hlt : n < m.st.length
    · rw [List.getElem?_append_left hlt] at e
      obtain ⟨b, q1, q2⟩ := r.hst.sto n ob e
      refine ⟨b, by rw [List.getElem?_append_left (by rw [r.hst.len]; exact hlt)]; exact q1, ?_⟩
      unfold SO at q2 ⊢
      cases ob with
      | lst es =>
        obtain ⟨ys, e1, r1⟩ := q2
        exact ⟨ys, by rw [putG_ne (ne e1)]; exact e1, r1.ev ev⟩
      | ins c fs => exact q2
    · rw [List.getElem?_append_right (by omega)] at e
      have hnn : n - m.st.length = 0 := by
        cases h0 : n - m.st.length with
        | zero => rfl
        | succ j => rw [h0] at e; simp at e
      rw [hnn] at e
      have e : some (O.lst ds) = some ob := e
      cases e
      have hnl : n = m.st.length := by omega
      subst hnl
      exact ⟨p, by rw [← r.hst.len, List.getElem?_append_right (Nat.le_refl _)]; simp, xs, putG_same, c.ev ev⟩
  · obtain ⟨v, h1, h2⟩ := r.val i d e ho
    exact ⟨v, h1, h2.ev ev⟩
  · obtain ⟨a, ob, h1, h2, h3⟩ := r.own i d e ho
    exact ⟨a, ob, h1, by rw [putG_ne (ne h2)]; exact h2, h3.mono ev.same ev.al⟩
/-- a list of the store is another one now -/
theorem Rst.stw {n : Nat} {a : Addr} {xs xs' : List V} {ds ds' : List D} (r : Rst K cls own G al m σ H) (hn : m.st[n]? = some (.lst ds)) (ha : al[n]? = some a) (hg : G a = some (.st n, .lst xs)) (c : DVs K (Zof G) al xs' ds') :
    Ev G al (putG G a (.st n) (.lst xs')) al ∧ Rst K cls own (putG G a (.st n) (.lst xs')) al { m with st := m.st.set n (.lst ds') } σ (upd H a (.lst xs')) := by
  have ne : ∀ {b t u}, G b = some (t, u) → t ≠ .st n → b ≠ a := fun e h z => by subst z; rw [hg] at e; cases e; exact h rfl
  have ev : Ev G al (putG G a (.st n) (.lst xs')) al := ⟨fun b u e => by rw [putG_ne (ne e (by intro z; cases z))]; exact e, fun b u e => by rw [putG_ne (ne e (by intro z; cases z))]; exact e, List.prefix_refl _⟩
  refine ⟨ev, ⟨fun b t u e => ?_, by rw [List.length_set]; exact r.hst.len, fun k ob e => ?_⟩, r.len, fun i d e ho => ?_, fun i d e ho => ?_⟩
  · by_cases hb : b = a
    · subst hb; rw [putG_same] at e; cases e; exact upd_same
    · rw [putG_ne hb] at e; rw [upd_ne hb]; exact r.hst.gh b t u e
  · by_cases hk : k = n
    · subst hk
      rw [List.getElem?_set_self (List.getElem?_eq_some_iff.mp hn).1] at e
      cases e
      exact ⟨a, ha, xs', putG_same, c.ev ev⟩
    · rw [List.getElem?_set_ne (Ne.symm hk)] at e
      obtain ⟨b, q1, q2⟩ := r.hst.sto k ob e
      refine ⟨b, q1, ?_⟩
      unfold SO at q2 ⊢
      cases ob with
      | lst es =>
        obtain ⟨ys, e1, r1⟩ := q2
        exact ⟨ys, by rw [putG_ne (ne e1 (by intro z; cases z; exact hk rfl))]; exact e1, r1.ev ev⟩
      | ins c fs => exact q2
  · obtain ⟨v, h1, h2⟩ := r.val i d e ho
    exact ⟨v, h1, h2.ev ev⟩
  · obtain ⟨b, ob, h1, h2, h3⟩ := r.own i d e ho
    exact ⟨b, ob, h1, by rw [putG_ne (ne h2 (by intro z; cases z))]; exact h2, h3.mono ev.same ev.al⟩
end
/-- a new list, shared -/
def eShare (f : Den D) : Den D := f.bind fun d => fun m => match d with
  | .lst ds => .ok (.obj m.st.length) { m with st := m.st ++ [.lst ds] }
  | _ => .bad
/-- o[k] = v, o a list of the store -/
def sPutO (fo : Den D) (fk : Den Hd) (fv : Den D) : Den Fl := fv.bind fun v => fo.bind fun o => fk.bind fun hk => fun m => match o with
  | .obj n => match m.st[n]?, look hk m with
    | some (.lst ds), some k => match gSet (.lst ds) k v with
      | some (.lst ds') => .ok .nx { m with st := m.st.set n (.lst ds') }
      | _ => .bad
    | _, _ => .bad
  | _ => .bad
section
variable {cls : Nat → Addr} {own : Nat → Bool} {X : Cx} {a b c : Expr} {fk : Den Hd} {fo fv : Den D} {pos ps npos : Pos} {i : Nat} {x : Str}
theorem se_share {f : Den D} (h : SF cls own X a f) : SE cls own X a (eShare f) := by
  refine pe_imp h fun σ H Q q => ?_
  obtain ⟨G, al, m, d, m', r, e, k⟩ := q
  obtain ⟨d0, m1, e1, e⟩ := bind_ok e
  split at e
  case h_2 => cases e
  next ds =>
  cases e
  refine ⟨G, al, m, _, m1, r, e1, fun G1 al1 p o H1 ev1 r1 hp hn c => ?_⟩
  obtain ⟨xs, rfl, c1⟩ := c.lst
  obtain ⟨ev2, r2⟩ := r1.share hp hn c1
  exact k _ _ _ _ (ev1.trans ev2) r2 (.obj (by rw [← r1.hst.len, List.getElem?_append_right (Nat.le_refl _)]; simp))
theorem ss_putO (hu : X.A.units + 65 < cLine) (ho : SE cls own X c fo) (hk : SH cls own X b fk) (hv : SE cls own X a fv)
    (hs : swapsWithSole [.Subscript c b ps] a pos.line X.env = pure false := by rfl) (hw : swappedStores [.Subscript c b ps] a X.env = pure none := by rfl)
    (ha : ∀ z, assign (.Subscript c b ps) X.env z = (holding [z] (eval c X.env) >>= fun o => holding [z, o] (eval b X.env) >>= fun j => standAt ps >>= fun _ => holding [z, o, j] (setItem o j z) >>= fun _ => release [z, o, j] []) := by intro _; rfl) :
    SS cls own X (.Assign [.Subscript c b ps] a pos) (sPutO fo fk fv) := by
  refine ps_imp (ps_asg hv (pg_sub ho hk (set_A hu) ha) hs hw) fun E σ H q => ?_
  obtain ⟨G, al, m, fl, m', r, e, k⟩ := q
  obtain ⟨v, m1, e1, e⟩ := bind_ok e
  obtain ⟨o, m2, e2, e⟩ := bind_ok e
  obtain ⟨hh, m3, e3, e⟩ := bind_ok e
  split at e
  case h_2 => cases e
  rename_i n _
  split at e
  case h_2 => cases e
  next ds dk e4 l4 =>
  split at e
  case h_2 => cases e
  next ds' e5 =>
  cases e
  refine ⟨G, al, m, v, m1, r, e1, fun G1 al1 vv H1 ev1 r1 dv => ⟨G1, al1, m1, _, m2, r1, e2, fun G2 al2 ov H2 ev2 r2 dvo => ⟨G2, al2, m2, hh, m3, r2, e3, fun G3 al3 y H3 ev3 r3 hy => ?_⟩⟩⟩
  have dvo' := dvo.ev ev3
  cases dvo' with
  | obj hal =>
    obtain ⟨a', h1, xs, h2, h3⟩ := r3.hst.sto n _ e4
    rw [hal] at h1; cases h1
    refine ok_set r3 (r3.hst.gh _ _ _ h2) (d := .lst ds) (show CO X.kx (Zof G3) al3 _ (.lst xs) (.lst ds) from h3) (look_cr r3 hy l4) ((dv.ev ev2).ev ev3) e5 fun o' c' => ?_
    obtain ⟨xs', rfl, c2⟩ := c'.lst
    obtain ⟨ev4, r4⟩ := r3.stw e4 hal h2 c2
    exact k _ al3 σ _ (((ev1.trans ev2).trans ev3).trans ev4) r4
/-! ### x += e, whole numbers -/
def sAug (i : Nat) (g : Int → Int → Int) (fv : Den D) : Den Fl := fun m => match m.sl[i]? with
  | some (some (.int a)) => match fv m with
    | .ok (.int b) m1 => .ok .nx { m1 with sl := m1.sl.set i (some (.int (g a b))) }
    | _ => .bad
  | _ => .bad
theorem ss_aug {op : Operator} {g : Int → Int → Int} (hop : PIp X op (ipI g)) (ho : own i = false) (hN : X.N.Nodup) (hi : X.N[i]? = some x) (hx : Loc X.env.scope x) (hv : SE cls own X a fv)
    (hf : X.fn x = true ∨ X.env.scope.names.lookup x = some .local := by first | exact .inl rfl | exact .inr rfl | assumption) : SS cls own X (.AugAssign (.Name x npos) op a pos) (sAug i g fv) := by
  refine ps_imp (ps_aug hN hi hx hv hop hf) fun E σ H q => ?_
  obtain ⟨G, al, m, fl, m', r, e, k⟩ := q
  unfold sAug at e
  split at e
  case h_2 => cases e
  next n0 e0 =>
  split at e
  case h_2 => cases e
  next n1 m1 e1 =>
  cases e
  obtain ⟨v0, s0, dv0⟩ := r.val i _ e0 ho
  cases dv0
  refine ⟨_, s0, G, al, m, _, m1, r, e1, fun G1 al1 v H1 ev1 r1 dv => ?_⟩
  cases dv
  exact ⟨n0, n1, rfl, rfl, k G1 al1 _ H1 ev1 (r1.set (.int _) ho)⟩
end
end MI

namespace MI
open PySem PySem.Spec L2

/-- values and new containers (held in the frame's part); ks: which is new; G0: the ghost heap at the start -/
inductive MxVs (K : KX) (G0 G : Gh) (al : List Addr) : List Bool → List V → List D → Prop
  | nil : MxVs K G0 G al [] [] []
  | val {v : V} {d : D} {ks : List Bool} {vs : List V} {ds : List D} : DV K (Zof G) al v d → MxVs K G0 G al ks vs ds → MxVs K G0 G al (false :: ks) (v :: vs) (d :: ds)
  | new {p : Addr} {o : HO} {d : D} {ks : List Bool} {vs : List V} {ds : List D} : G p = some (.frm, o) → (∀ u, G0 p ≠ some (.frm, u)) → CO K (Zof G) al p o d → MxVs K G0 G al ks vs ds → MxVs K G0 G al (true :: ks) (.ref p :: vs) (d :: ds)
/-- no new container among them stands at p -/
def Off (p : Addr) : List Bool → List V → Prop
  | true :: ks, v :: vs => v ≠ .ref p ∧ Off p ks vs
  | false :: ks, _ :: vs => Off p ks vs
  | _, _ => True
/-- the new ones stand apart -/
def Apart : List Bool → List V → Prop
  | true :: ks, .ref p :: vs => Off p ks vs ∧ Apart ks vs
  | _ :: ks, _ :: vs => Apart ks vs
  | _, _ => True
def tMx (K : KX) (cls : Nat → Addr) (own : Nat → Bool) (ks : List Bool) (f : Den (List D)) : TA := fun σ H Q => ∃ G al m ds m', Rst K cls own G al m σ H ∧ f m = .ok ds m' ∧
  ∀ G' al' vs H', Ev G al G' al' → Rst K cls own G' al' m' σ H' → MxVs K G G' al' ks vs ds → Apart ks vs → Q vs H'
abbrev SMs (cls : Nat → Addr) (own : Nat → Bool) (X : Cx) (es : List Expr) (ks : List Bool) (f : Den (List D)) : Prop := PA X es (tMx X.kx cls own ks f)
def mNil : Den (List D) := .ret []
def mCons (f : Den D) (r : Den (List D)) : Den (List D) := f.bind fun d => r.bind fun ds => .ret (d :: ds)
section
variable {K : KX} {cls : Nat → Addr} {own : Nat → Bool} {G0 G1 G : Gh} {al : List Addr}
theorem MxVs.base {ks : List Bool} {vs : List V} {ds : List D} (h : MxVs K G1 G al ks vs ds) (b : ∀ p u, G0 p = some (.frm, u) → G1 p = some (.frm, u)) : MxVs K G0 G al ks vs ds := by
  induction h with
  | nil => exact .nil
  | val h _ ih => exact .val h ih
  | new h1 h2 h3 _ ih => exact .new h1 (fun u e => h2 u (b _ _ e)) h3 ih
theorem MxVs.off {p : Addr} {o : HO} {ks : List Bool} {vs : List V} {ds : List D} (h : MxVs K G1 G al ks vs ds) (hp : G1 p = some (.frm, o)) : Off p ks vs := by
  induction h with
  | nil => exact True.intro
  | val _ _ ih => exact ih
  | new h1 h2 h3 _ ih => exact ⟨fun e => by cases e; exact h2 _ hp, ih⟩
variable {X : Cx} {e : Expr} {es : List Expr} {ks : List Bool} {fe : Den D} {fr : Den (List D)}
theorem sm_nil : SMs cls own X [] [] mNil := pa_imp pa_nil fun σ H Q ⟨G, al, m, d, m', r, e, k⟩ => by cases e; exact k G al _ H .refl r .nil True.intro
theorem sm_val (h : SE cls own X e fe) (hr : SMs cls own X es ks fr) (hs : starEach (e :: es) X.env = (false, eval e X.env) :: starEach es X.env := by rfl) : SMs cls own X (e :: es) (false :: ks) (mCons fe fr) := by
  refine pa_imp (pa_cons h hr hs) fun σ H Q q => ?_
  obtain ⟨G, al, m, d, m', r, e, k⟩ := q
  obtain ⟨d0, m1, e1, e2⟩ := bind_ok e
  obtain ⟨ds, m2, e3, e4⟩ := bind_ok e2
  cases e4
  refine ⟨G, al, m, d0, m1, r, e1, fun G1 al1 v H1 ev1 r1 dv => ?_⟩
  refine ⟨G1, al1, m1, ds, _, r1, e3, fun G2 al2 vs H2 ev2 r2 mx ap => k G2 al2 _ H2 (ev1.trans ev2) r2 (.val (dv.ev ev2) (mx.base fun p u z => ev1.frm p u z)) ?_⟩
  exact ap
theorem sm_new (h : SF cls own X e fe) (hr : SMs cls own X es ks fr) (hs : starEach (e :: es) X.env = (false, eval e X.env) :: starEach es X.env := by rfl) : SMs cls own X (e :: es) (true :: ks) (mCons fe fr) := by
  refine pa_imp (pa_cons h hr hs) fun σ H Q q => ?_
  obtain ⟨G, al, m, d, m', r, e, k⟩ := q
  obtain ⟨d0, m1, e1, e2⟩ := bind_ok e
  obtain ⟨ds, m2, e3, e4⟩ := bind_ok e2
  cases e4
  refine ⟨G, al, m, d0, m1, r, e1, fun G1 al1 p o H1 ev1 r1 hp hn c => ?_⟩
  have ev2 : Ev G1 al1 (putG G1 p .frm o) al1 := ev_put hn
  refine ⟨putG G1 p .frm o, al1, m1, ds, _, r1.tag hn hp, e3, fun G2 al2 vs H2 ev3 r2 mx ap => k G2 al2 _ H2 ((ev1.trans ev2).trans ev3) r2 (.new (ev3.frm _ _ putG_same) (fun u z => ?_) ?_ (mx.base fun q u z => ?_)) ⟨mx.off putG_same, ap⟩⟩
  · rw [ev1.frm _ _ z] at hn; cases hn
  · exact (c.mono ev2.same ev2.al).mono ev3.same ev3.al
  · exact ev2.frm _ _ (ev1.frm _ _ z)
end
/-! ### the stores -/
def setD : List (Option D) → List Nat → List D → List (Option D)
  | sl, i :: is, d :: ds => setD (sl.set i (some d)) is ds
  | sl, _, _ => sl
def setV : St → List Nat → List V → St
  | σ, i :: is, v :: vs => setV (σ.set i (some v)) is vs
  | σ, _, _ => σ
section
variable {K : KX} {cls : Nat → Addr} {own : Nat → Bool} {G0 : Gh} {al0 : List Addr}
theorem MxVs.retag {p : Addr} {o : HO} {i : Nat} {G : Gh} {al : List Addr} (hp : G p = some (.frm, o)) : ∀ {ks : List Bool} {vs : List V} {ds : List D}, MxVs K G0 G al ks vs ds → Off p ks vs → Zof (putG G p (.slot i) o) = Zof G → MxVs K G0 (putG G p (.slot i) o) al ks vs ds
  | _, _, _, .nil, _, _ => .nil
  | _, _, _, .val h t, off, hz => .val (by rw [hz]; exact h) (MxVs.retag hp t off hz)
  | _, _, _, .new (p := q) h1 h2 h3 t, off, hz => .new (by rw [putG_ne (fun e => off.1 (by rw [e]))]; exact h1) h2 (by rw [hz]; exact h3) (MxVs.retag hp t off.2 hz)
/-- what the frame held is a slot's now -/
theorem Rst.toSlot {p : Addr} {o : HO} {d : D} {i : Nat} {G : Gh} {al : List Addr} {m : MS} {σ : St} {H : Hp} (r : Rst K cls own G al m σ H) (hp : G p = some (.frm, o)) (c : CO K (Zof G) al p o d) (ho : own i = true) :
    Rst K cls own (putG G p (.slot i) o) al { m with sl := m.sl.set i (some d) } (σ.set i (some (.ref p))) H ∧ Zof (putG G p (.slot i) o) = Zof G := by
  obtain ⟨r1, hz1⟩ := r.unframe hp
  have hput : putG (delG G p) p (.slot i) o = putG G p (.slot i) o := by
    funext b
    by_cases e : b = p
    · subst e; rw [putG_same, putG_same]
    · rw [putG_ne e, putG_ne e, delG_ne e]
  have hz : Zof (putG G p (.slot i) o) = Zof G := by
    funext b
    unfold Zof
    by_cases e : b = p
    · subst e; rw [putG_same, hp]
    · rw [putG_ne e]
  have r2 := r1.setOwn (i := i) (r.hst.gh _ _ _ hp) delG_same (by rw [hz1]; exact c) ho
  rw [hput] at r2
  exact ⟨r2, hz⟩
theorem Rst.setMx : ∀ {is : List Nat} {ks : List Bool} {vs : List V} {ds : List D} {G : Gh} {al : List Addr} {m : MS} {σ : St} {H : Hp}, Rst K cls own G al m σ H → Ev G0 al0 G al → MxVs K G0 G al ks vs ds → Apart ks vs → is.map own = ks →
    ∃ G', Ev G0 al0 G' al ∧ Rst K cls own G' al { m with sl := setD m.sl is ds } (setV σ is vs) H
  | [], _, _, _, G, al, m, σ, H, r, ev, .nil, _, _ => ⟨G, ev, r⟩
  | [], _, _, _, G, al, m, σ, H, r, ev, .val _ _, _, e => by cases e
  | [], _, _, _, G, al, m, σ, H, r, ev, .new _ _ _ _, _, e => by cases e
  | i :: is, _, _, _, G, al, m, σ, H, r, ev, .nil, _, e => by cases e
  | i :: is, _, _, _, G, al, m, σ, H, r, ev, .val h t, ap, e => by
    have e : own i :: is.map own = false :: _ := e
    injection e with e1 e2
    have q := Rst.setMx (is := is) (r.set h e1) ev t ap e2
    exact q
  | i :: is, _, _, _, G, al, m, σ, H, r, ev, .new (p := p) h1 h2 h3 t, ap, e => by
    have e : own i :: is.map own = true :: _ := e
    injection e with e1 e2
    obtain ⟨r2, hz⟩ := r.toSlot h1 h3 e1
    have q := Rst.setMx (is := is) r2 ⟨fun b u z => by rw [putG_ne (by intro q; subst q; rw [ev.frz _ _ z] at h1; cases h1)]; exact ev.frz _ _ z,
      fun b u z => by rw [putG_ne (by intro q; subst q; exact h2 _ z)]; exact ev.frm _ _ z, ev.al⟩ (MxVs.retag h1 t ap.1 hz) ap.2 e2
    exact q
end
/-- a, b, .. = x, y, .. -/
def sMulti (is : List Nat) (f : Den (List D)) : Den Fl := f.bind fun ds => fun m => if ds.length = is.length then .ok .nx { m with sl := setD m.sl is ds } else .bad
section
variable {cls : Nat → Addr} {own : Nat → Bool} {X : Cx} {a b c : Expr} {es ts : List Expr} {fs : Den (List D)} {ks : List Bool} {px py pz pt pos : Pos} {kt k2 : Nat} {pt2 : Pos} {i j l : Nat} {x y z : Str} {is : List Nat}
theorem MxVs.length {K : KX} {G0 G : Gh} {al : List Addr} {ks : List Bool} {vs : List V} {ds : List D} (h : MxVs K G0 G al ks vs ds) : vs.length = ds.length := by
  induction h with
  | nil => rfl
  | val _ _ ih => rw [List.length_cons, List.length_cons, ih]
  | new _ _ _ _ ih => rw [List.length_cons, List.length_cons, ih]
theorem ss_parM (hks : [i, j].map own = ks) (hc : X.calm = true) (hN : X.N.Nodup) (hi : X.N[i]? = some x) (hj : X.N[j]? = some y) (hij : i ≠ j)
    (hx : X.env.scope.names.lookup x = some .local) (hy : X.env.scope.names.lookup y = some .local) (ha : SMs cls own X [a, b] ks fs)
    (hw : swappedStores [.Tuple [.Name x px, .Name y py] kt pt] (.Tuple [a, b] k2 pt2) X.env = pure (some [x, y]))
    (hs : swapsWithSole [.Tuple [.Name x px, .Name y py] kt pt] (.Tuple [a, b] k2 pt2) pos.line X.env = pure false := by rfl) :
    SS cls own X (.Assign [.Tuple [.Name x px, .Name y py] kt pt] (.Tuple [a, b] k2 pt2) pos) (sMulti [i, j] fs) := by
  refine ps_imp (ps_par hc hN hi hj hij hx hy ha hw hs) fun E σ H q => ?_
  obtain ⟨G, al, m, fl, m', r, e, k⟩ := q
  obtain ⟨ds, m1, e1, e⟩ := bind_ok e
  split at e
  case isFalse => cases e
  next hl =>
  cases e
  refine ⟨G, al, m, ds, m1, r, e1, fun G1 al1 vs H1 ev1 r1 mx ap => ?_⟩
  obtain ⟨G2, ev2, r2⟩ := r1.setMx ev1 mx ap hks
  have hv := mx.length
  match vs, hv.trans hl with
  | [v, w], _ => exact ⟨v, w, rfl, k G2 al1 _ H1 ev2 r2⟩
theorem ss_parM3 (hks : [i, j, l].map own = ks) (hc : X.calm = true) (hN : X.N.Nodup) (hi : X.N[i]? = some x) (hj : X.N[j]? = some y) (hl : X.N[l]? = some z) (hij : i ≠ j) (hil : i ≠ l) (hjl : j ≠ l)
    (hx : X.env.scope.names.lookup x = some .local) (hy : X.env.scope.names.lookup y = some .local) (hz : X.env.scope.names.lookup z = some .local) (ha : SMs cls own X [a, b, c] ks fs)
    (hw : swappedStores [.Tuple [.Name x px, .Name y py, .Name z pz] kt pt] (.Tuple [a, b, c] k2 pt2) X.env = pure (some [x, y, z]))
    (hs : swapsWithSole [.Tuple [.Name x px, .Name y py, .Name z pz] kt pt] (.Tuple [a, b, c] k2 pt2) pos.line X.env = pure false := by rfl) :
    SS cls own X (.Assign [.Tuple [.Name x px, .Name y py, .Name z pz] kt pt] (.Tuple [a, b, c] k2 pt2) pos) (sMulti [i, j, l] fs) := by
  refine ps_imp (ps_par3 hc hN hi hj hl hij hil hjl hx hy hz ha hw hs) fun E σ H q => ?_
  obtain ⟨G, al, m, fl, m', r, e, k⟩ := q
  obtain ⟨ds, m1, e1, e⟩ := bind_ok e
  split at e
  case isFalse => cases e
  next hl =>
  cases e
  refine ⟨G, al, m, ds, m1, r, e1, fun G1 al1 vs H1 ev1 r1 mx ap => ?_⟩
  obtain ⟨G2, ev2, r2⟩ := r1.setMx ev1 mx ap hks
  have hv := mx.length
  match vs, hv.trans hl with
  | [u, v, w], _ => exact ⟨u, v, w, rfl, k G2 al1 _ H1 ev2 r2⟩
/-- the names of a target, stored one by one -/
def gNames : List Nat → TGs
  | [] => gNil
  | i :: is => gCons (gName i) (gNames is)
theorem gNames_of {Q : St → Hp → Prop} {H : Hp} : ∀ {is : List Nat} {vs : List V} {σ : St}, vs.length = is.length → Q (setV σ is vs) H → gNames is vs σ H Q
  | [], [], _, _, h => ⟨rfl, h⟩
  | [], _ :: _, _, e, _ => by cases e
  | _ :: _, [], _, e, _ => by cases e
  | i :: is, v :: vs, σ, e, h => ⟨v, vs, rfl, gNames_of (by simpa using e) h⟩
theorem ss_asgM {n : Nat} (hks : is.map own = ks) (hc : X.calm = true) (hg : PGs X ts (gNames is)) (ha : SMs cls own X es ks fs) (hn : is.length = n) (hfit : is.length ≤ 1000)
    (hs : swapsWithSole [.Tuple ts kt pt] (.Tuple es k2 pt2) pos.line X.env = pure false := by rfl) (hw : swappedStores [.Tuple ts kt pt] (.Tuple es k2 pt2) X.env = pure none := by rfl)
    (h1 : (assignEach [.Tuple ts kt pt] X.env).map (·.2) = [assign (.Tuple ts kt pt) X.env] := by rfl)
    (hnn : (assignEach ts X.env).length = n := by rfl) (hst : (assignEach ts X.env).findIdx? (·.1) = none := by rfl) :
    SS cls own X (.Assign [.Tuple ts kt pt] (.Tuple es k2 pt2) pos) (sMulti is fs) := by
  refine ps_imp (ps_asg (pe_tup ha) (pg_tup hc hg hnn hst) hs hw h1) fun E σ H q => ?_
  obtain ⟨G, al, m, fl, m', r, e, k⟩ := q
  obtain ⟨ds, m1, e1, e⟩ := bind_ok e
  split at e
  case isFalse => cases e
  next hl =>
  cases e
  refine ⟨G, al, m, ds, m1, r, e1, fun G1 al1 vs H1 ev1 r1 mx ap => ⟨?_, fun p hp => ?_⟩⟩
  · rw [mx.length, hl, sizeLine_eq]; omega
  · obtain ⟨G2, ev2, r2⟩ := (r1.fresh (o := .tup vs) hp).setMx ev1 mx ap hks
    exact ⟨p, vs, rfl, .inl (.inl upd_same), by rw [mx.length, hl, hn], gNames_of (by rw [mx.length, hl]) (k G2 al1 _ _ ev2 r2)⟩
end
end MI

namespace MI
open PySem PySem.Spec L2

/-- a def's promise inside calls whose guard is empty -/
structure FnG (P : Program) (w : World) (K : PySem.W.Frag) (mg : Str → Option Value) (base : Heap) (k : Nat) (f : Addr) (fd : FuncData) (ps : List Str) (sp : Sp) : Prop where
  len : ∀ vs H Q E, sp vs H Q E → vs.length = ps.length
  go : ∀ (A : Around) (out : List Env) (s : Shared) (H : Hp) (ar : Args) (us : List Value) (vs : List V) (Q : VK) (E : XK), Room k A → A.guards = some [] → Env0 P w K mg base A out s H → BindsTo s fd ar (ps.zip us) → Vals vs us → sp vs H Q E →
    codeAny (model P w) A (.call (.ref f) ar) (L2.CR CX0 out P w H s Q E) s
section
variable {P : Program} {w : World} {K : PySem.W.Frag} {mg : Str → Option Value} {base : Heap} {x qual : Str} {params : Arguments} {body : List Stmt} {scope : Scope} {dvs : List V} {kws : List (Str × V)} {f : Addr} {fd : FuncData} {cls : Nat → Addr} {own : Nat → Bool}
theorem fnG_of {N ps : List Str} {k : Nat} {sp : Sp} (F : FunD K x qual params body scope dvs kws f fd) (S : FnScope N ps scope) (len : ∀ vs H Q E, sp vs H Q E → vs.length = ps.length)
    (hb : ∀ (cdv : Value) (A : Around) (out : List Env) (s : Shared) (H : Hp) (vs : List V) (Q : VK) (E : XK), Room k (A.deeper (PyProof.Rows.envOfC qual scope s.heap.objs.size f cdv)) → A.guards = some [] → sp vs H Q E →
      ∃ t, PSs (cxOf CX0 P w K mg base N qual scope f cdv A out s H E) body t ∧ t { nx := fun _ H' => Q .non H', rt := Q } (L2.start N vs) H) : FnG P w K mg base (k + 1) f fd ps sp := by
  obtain ⟨oc, od, dV, kV, doc, pm, an, cdv, ct, osl, rfl, lk, hcd, _, _⟩ := F.ex
  refine ⟨len, fun A out s H ar us vs Q E room gd env bt rel hsp => ?_⟩
  have kin : K.In s.heap := env.mod.kin.keeps fun b o e => (env.bs b o e).1
  have nolim : s.heap.NoLimit := env.mod.nolimit.keeps fun b o e => (env.bs b o e).1
  have kinds : ∀ y ∈ ps.zip us, scope.names.lookup y.1 = some .local ∨ (scope.names.lookup y.1 = some .cell ∧ ((cellsFrom (s.heap.objs.size + 1) scope.names []).lookup y.1).isSome = true) := by
    rintro ⟨n, v⟩ hy
    rcases S.par n (List.of_mem_zip hy).1 with z | z
    · exact .inl z
    · exact .inr ⟨z, PySem.W.cellsFrom_some _ _ _ (.inl z)⟩
  refine codeAny_call_function room.depth (kin _ _ lk) rfl S.co S.gen rfl (PySem.W.codeRec_of kin hcd) (bt _ _ _ _ ?_)
  refine wpAny_newFunctionEnv_cells S.kind kinds fun en hen s1 inc => ?_
  subst hen
  refine ⟨nolim.keeps inc.toInCall.keep, codeAny_func ?_⟩
  obtain ⟨t, pt, ht⟩ := hb cdv A out s H vs Q E (room.deeper _) gd hsp
  have J0 : Inv (cxOf CX0 P w K mg base N qual scope f cdv A out s H E) [] (L2.start N vs) H s1 := inv_start S room.hd env (len _ _ _ _ hsp) rel inc
  refine wpAny_mono (pt.run [] s1 (L2.start N vs) H _ J0 ht) (fun fl s' hs => ?_) fun e s' hs => hs
  cases fl with
  | ret u =>
    obtain ⟨v, σ', H', J, rv, q⟩ := hs
    exact ⟨v, H', J.os, J.bare, J.base, J.hok, rv, q⟩
  | next =>
    obtain ⟨σ', H', J, q⟩ := hs
    exact ⟨.non, H', J.os, J.bare, J.base, J.hok, rfl, q⟩
  | brk => obtain ⟨_, _, _, q⟩ := hs; exact q.elim
  | cont => obtain ⟨_, _, _, q⟩ := hs; exact q.elim
/-- a def keeps what its body's denotation says -/
theorem fn_okG {N ps : List Str} {k : Nat} {den : Den Fl} (F : FunD K x qual params body scope dvs kws f fd) (S : FnScope N ps scope) (hop : ∀ i, i < ps.length → own i = false)
    (hb : ∀ (cdv : Value) (A : Around) (out : List Env) (s : Shared) (H : Hp) (E : XK), Room k (A.deeper (PyProof.Rows.envOfC qual scope s.heap.objs.size f cdv)) → A.guards = some [] → SSs cls own (cxOf CX0 P w K mg base N qual scope f cdv A out s H E).nox body den) :
    FnG P w K mg base (k + 1) f fd ps (SpD ⟨K, P, w⟩ cls ps.length (runFn N.length den)) := by
  refine fnG_of F S (fun vs H Q E h => h.1) fun cdv A out s H vs Q E hr gd h => ⟨_, PSs.nox (hb cdv A out s H E hr gd), ?_⟩
  obtain ⟨hl, G, al, ds, st, d, st', hst, dv, e, k⟩ := h
  have r0 : Rst ⟨K, P, w⟩ cls own G al ⟨ds.map some ++ List.replicate (N.length - ds.length) none, st⟩ (L2.start N vs) H := by
    refine ⟨hst, by simp [L2.start, dv.length], fun i d q ho => ?_, fun i d q ho => ?_⟩
    · obtain ⟨v, h1, h2⟩ := dv.get (start_get q)
      refine ⟨v, ?_, h2⟩
      unfold L2.start
      rw [List.getElem?_append_left (by simpa using (List.getElem?_eq_some_iff.mp h1).1), List.getElem?_map, h1]
      rfl
    · have := (List.getElem?_eq_some_iff.mp (start_get q)).1
      rw [hop i (by rw [← hl, dv.length]; exact this)] at ho
      cases ho
  unfold runFn at e
  split at e
  case h_3 => cases e
  case h_1 _ d0 m0 e0 =>
    cases e
    exact ⟨G, al, _, .rt _, m0, r0, e0, fun G1 al1 σ1 H1 ev1 r1 v dv1 => k G1 al1 v H1 ev1 r1.hst dv1⟩
  case h_2 _ m0 e0 =>
    cases e
    exact ⟨G, al, _, .nx, m0, r0, e0, fun G1 al1 σ1 H1 ev1 r1 => k G1 al1 .non H1 ev1 r1.hst .non⟩
end
/-! ### calls -/
structure DefG (P : Program) (w : World) (K : PySem.W.Frag) (mg : Str → Option Value) (base : Heap) (cls : Nat → Addr) (k : Nat) (x : Str) (f : Addr) (fd : FuncData) (ps : List Str) (fn : Fn) : Prop where
  ok : FnG P w K mg base k f fd ps (SpD ⟨K, P, w⟩ cls ps.length fn)
  gl : mg x = some (.ref f)
  kp : PySem.W.keepIn K (.ref f) = true
section
variable {cls : Nat → Addr} {own : Nat → Bool} {X : Cx} {k j n : Nat} {f : Addr} {fd : FuncData} {ps ks : List Str} {fn : Fn} {x : Str} {p pos : Pos} {e : Expr} {es : List Expr} {fs fk : Den (List Hd)} {kws : List Keyword} {sp : List Src} {dvs : List V} {dds : List D} {mv : List Value}
theorem runG {pins : List (Addr × Obj)} {σ : St} {H : Hp} {s : Shared} {Q : VK} {us ws : List Value} {vs zs : List V} {sp : Sp} {g : List Value → List Value → List Value} {gV : List V → List V → List V} (F : FnG X.prog X.w X.K X.mg X.base k f fd ps sp) (hr : Room k X.A) (gd : X.A.guards = some []) (hb : KBn X.K fd ps n ks g gV)
    (I : Inv X pins σ H s) (r : Vals vs us) (rz : Vals zs ws) (l1 : vs.length = n) (l2 : zs.length = ks.length) (h : sp (gV vs zs) H Q L2.E0) : wpAny (model X.prog X.w) X.A (call (.ref f) us (ks.zip ws)) (EP X pins σ Q) X.xe s := by
  refine wpAny_call (codeAny_mono (F.go X.A X.stack s H ⟨us, ks.zip ws⟩ (g us ws) (gV vs zs) Q L2.E0 hr gd I.env0 (hb.to s us ws I.kIn (by rw [← r.length]; exact l1) (by rw [← rz.length]; exact l2)) (hb.rel r rz) h) fun res s' hq => ?_)
  cases res with
  | error ex => exact pass0 (X := X) pins σ H s ex s' I hq
  | ok fl => cases fl with
    | ret u => exact I.after hq
    | next => exact hq.elim
    | brk => exact hq.elim
    | cont => exact hq.elim
theorem yc (F : DefG X.prog X.w X.K X.mg X.base cls j x f fd ps fn) (hr : Room k X.A) (gd : X.A.guards = some []) (hb : KBn X.K fd ps n ks (fun us ws => arr sp us mv ws) (fun vs zs => arr sp vs dvs zs))
    (hdd : DVs X.kx (fun _ => none) [] dvs dds) (ha : SHs cls own X (e :: es) fs) (hkw : SKs cls own X kws fk) (hnp : ∀ vs zs : List V, vs.length = n → zs.length = ks.length → (arr sp vs dvs zs).length = ps.length) (hl1 : ∀ m hs m', fs m = .ok hs m' → hs.length = n) (hl2 : ∀ m hs m', fk m = .ok hs m' → hs.length = ks.length)
    (hjk : j ≤ k := by decide) (hg : Gl X x := by rfl)
    (hall : (backToKw pos (keywordEach kws X.env)).all (·.1.isSome) = true := by rfl) (hks : (backToKw pos (keywordEach kws X.env)).filterMap (·.1) = ks := by rfl)
    (hdb : (x == ("__debug__" : Str)) = false := by decide) (he : starEach (e :: es) X.env = (false, eval e X.env) :: starEach es X.env := by rfl)
    (hpl : ((backTo pos (starEach (e :: es) X.env)).any (·.1) || (backToKw pos (keywordEach kws X.env)).any (·.1.isNone)) = false := by rfl) :
    SE cls own X (.Call (.Name x p) (e :: es) kws pos) (eCallK fn sp dds (aVals fs) (aVals fk)) := by
  refine ⟨fun pins s σ H Q I h => ?_⟩
  have h := callK_core (np := ps.length) hnp hdd hl1 hl2 h
  refine wpAny_Call_Name_kw (ld_glob I hg F.gl ?_ hdb)
  refine PySem.W.callWith_KW (h₀ := X.base) I.ok.mod.kin F.kp hall (thn (ha.run pos pins s σ H _ I h) fun us s1 ⟨vs, H1, I1, r, q⟩ => ?_) hpl he
  refine thn (hkw.run pos pins s1 σ H1 _ I1 q) fun ws s2 ⟨zs, H2, I2, rz, l1, l2, q2⟩ => ⟨I2.kIn, ?_⟩
  rw [hks]
  exact runG F.ok (hr.mono hjk) gd hb I2 r rz l1 l2 q2
theorem yc0 (F : DefG X.prog X.w X.K X.mg X.base cls j x f fd ps fn) (hr : Room k X.A) (gd : X.A.guards = some []) (hb : KBn X.K fd ps 0 ks (fun us ws => arr sp us mv ws) (fun vs zs => arr sp vs dvs zs))
    (hdd : DVs X.kx (fun _ => none) [] dvs dds) (hkw : SKs cls own X kws fk) (hnp : ∀ vs zs : List V, vs.length = 0 → zs.length = ks.length → (arr sp vs dvs zs).length = ps.length) (hl2 : ∀ m hs m', fk m = .ok hs m' → hs.length = ks.length)
    (hjk : j ≤ k := by decide) (hg : Gl X x := by rfl)
    (hall : (backToKw pos (keywordEach kws X.env)).all (·.1.isSome) = true := by rfl) (hks : (backToKw pos (keywordEach kws X.env)).filterMap (·.1) = ks := by rfl)
    (hdb : (x == ("__debug__" : Str)) = false := by decide) (hpl : ((backTo pos (starEach [] X.env)).any (·.1) || (backToKw pos (keywordEach kws X.env)).any (·.1.isNone)) = false := by rfl) :
    SE cls own X (.Call (.Name x p) [] kws pos) (eCallK fn sp dds (aVals aNil) (aVals fk)) := by
  refine ⟨fun pins s σ H Q I h => ?_⟩
  have h := callK_core (np := ps.length) (n := 0) hnp hdd (fun m hs m' h => aNil_len h) hl2 h
  obtain ⟨G, al, m, d, m', r, e, k0⟩ := h
  cases e
  have h1 := k0 G al [] H .refl r .nil
  refine wpAny_Call_Name_kw (ld_glob I hg F.gl ?_ hdb)
  refine PySem.W.callWith_KW0 (h₀ := X.base) I.ok.mod.kin F.kp hall (thn (hkw.run pos pins s σ H _ I h1) fun ws s2 ⟨zs, H2, I2, rz, l1, l2, q2⟩ => ⟨I2.kIn, ?_⟩) hpl
  rw [hks]
  exact runG F.ok (hr.mono hjk) gd hb I2 .nil rz l1 l2 q2
end
/-! ### the law's call -/
theorem lawG {P : Program} {w : World} {K : PySem.W.Frag} {mg mb : Str → Option Value} {k : Nat} {fa a : Addr} {fd : FuncData} {x : Str} {sp : Sp} {s1 : Shared} {us : List Value} {ns : List Int}
    (kin : K.In s1.heap) (nsg : s1.heap.Ns mainGlobals mg) (nsb : s1.heap.Ns builtinsNs mb) (hbb : ∀ x : Str, x ≠ "__name__" → mb x = bootBuiltins x) (nolim : s1.heap.NoLimit) (gens : s1.gens = #[])
    (ha : s1.heap.get? a = some { cls := .type "list", data := .seq us.toArray }) (its : PyProof.Rows.IntsAre us ns) (fit : ns.length ≤ sizeLine) (room : Room k callerA)
    (F : ∀ base : Heap, K.In base → base.Ns mainGlobals mg → FnG P w K mg base k fa fd [x] sp) (bt : ∀ (s : Shared) (u : Value), BindsTo s fd ⟨[u], []⟩ [(x, u)])
    (hsp : ∀ H : Hp, SqL K H a (ns.map V.int) → sp [.ref a] H (fun v _ => v = .bl true) fun _ _ _ => False) :
    codeAny (model P w) callerA (.call (.ref fa) ⟨[.ref a], []⟩) (fun r s' => r = .ok (.ret (.bool true)) ∧ OldK s1.heap s'.heap ∧ s'.os = s1.os ∧ PyProof.Rows.AllBare s'.gens) s1 := by
  have rel := vals_ints its
  have main : ∀ H : Hp, (∀ b, H b = none ∨ (b = a ∧ K.lookup a = none ∧ ∃ o xs, H b = some (.frz o (.lst xs)))) → SqL K H a (ns.map V.int) → HOk P w H s1.heap →
      codeAny (model P w) callerA (.call (.ref fa) ⟨[.ref a], []⟩) (fun r s' => r = .ok (.ret (.bool true)) ∧ OldK s1.heap s'.heap ∧ s'.os = s1.os ∧ PyProof.Rows.AllBare s'.gens) s1 := by
    intro H only hS hok
    have free : ∀ {b : Addr} {o : Obj}, s1.heap.get? b = some o → (b = a → ∃ es ep, o.data = .dict es ep) → H b = none := by
      intro b o e hd
      rcases only b with z | ⟨rfl, _, _⟩
      · exact z
      · obtain ⟨es, ep, hd⟩ := hd rfl
        rw [ha] at e; cases e; cases hd
    have spaces : ∀ {b : Addr} {m : Str → Option Value}, s1.heap.Ns b m → (hidT s1.heap H).Ns b m := by
      rintro b m ⟨o, es, ep, e, d, r⟩
      exact ⟨o, es, ep, hidT_get e (free e fun _ => ⟨es, ep, d⟩), d, r⟩
    have kb : K.In (hidT s1.heap H) := by
      intro b o e
      refine hidT_get (kin b o e) ?_
      rcases only b with z | ⟨rfl, z, _⟩
      · exact z
      · rw [z] at e; cases e
    have md : Mod K mg (hidT s1.heap H) := ⟨kb, spaces nsg, ⟨mb, spaces nsb, hbb⟩, by obtain ⟨mc, h1, h2⟩ := nolim; exact ⟨mc, spaces h1, h2⟩⟩
    have env : Env0 P w K mg (hidT s1.heap H) callerA [] s1 H := ⟨rfl, md, fun b o e => of_hidT e, Nat.le_of_eq (hidT_size _ _), trivial, fun b hb => absurd (show b ∈ ([] : List Addr) from hb) (by simp), hok, .of_eq gens⟩
    refine codeAny_mono ((F _ kb (spaces nsg)).go callerA [] s1 H ⟨[.ref a], []⟩ [.ref a] [.ref a] _ _ room rfl env (bt s1 (.ref a)) (.cons rfl .nil) (hsp H hS)) fun res s' hres => ?_
    cases res with
    | error ex => exact (show False from hres).elim
    | ok fl => cases fl with
      | next => exact hres.elim
      | brk => exact hres.elim
      | cont => exact hres.elim
      | ret u =>
        obtain ⟨v, H', os, bare, un, hok', rv, hv⟩ := hres
        have hv : v = .bl true := hv
        subst hv
        have hu : u = Value.bool true := rv
        subst hu
        refine ⟨rfl, OldK.of_keep fun b o e => ?_, os, bare⟩
        rcases only b with z | ⟨_, _, ob, xs, z⟩
        · exact un.keep b o e z (fun y => absurd (show b ∈ ([] : List Addr) from y) (by simp)) (by simp)
        · obtain ⟨e1, _⟩ := hok b _ z
          obtain ⟨e2, _⟩ := hok' b _ (un.frzs b ob _ z)
          rw [e] at e1; cases e1
          exact e2
  cases hk : K.lookup a with
  | some o =>
    have e := kin a o hk
    rw [ha] at e; cases e
    exact main (fun _ => none) (fun _ => .inl rfl) (.inr ⟨_, us.toArray, _, hk, rfl, rfl, rfl, by rw [List.size_toArray, its.length]; exact fit, by simpa using rel⟩) fun b u z => nomatch (show (none : Option HO) = some u from z)
  | none =>
    refine main (fun b => if b = a then some (.frz { cls := .type "list", data := .seq us.toArray } (.lst (ns.map V.int))) else none) (fun b => ?_) (.inl (.inr ⟨{ cls := .type "list", data := .seq us.toArray }, if_pos rfl⟩)) fun b u z => ?_
    · by_cases hb : b = a
      · exact .inr ⟨hb, hk, _, _, if_pos hb⟩
      · exact .inl (if_neg hb)
    · by_cases hb : b = a
      · have z := (if_pos hb).symm.trans z
        cases z
        subst hb
        exact ⟨ha, by rw [List.length_map]; exact fit, us, _, rel, ha⟩
      · exact nomatch (if_neg hb).symm.trans z
/-- the goal behind the head -/
theorem walkG {l : PySem.W.OpenLaw} {n k : Nat} {q : Program} {loose : List Str} {XP : (Str → Option Value) → Heap → Prop} {YP : World → Heap → Prop} {d : DefRec} {x : Str} (most : l.most = some n) (fit : n ≤ sizeLine) (hdf : d.params.defaults = []) (room : Room k callerA)
    (F : ∀ (w : World) (mg : Str → Option Value) (fa : Addr) (h : Heap), YP w h → h.Ns mainGlobals mg → mg d.name = some (.ref fa) →
      ∃ (K : PySem.W.Frag) (fd : FuncData) (sp : Sp), K.In h ∧ (∀ (s : Shared) (u : Value), BindsTo s fd ⟨[u], []⟩ [(x, u)]) ∧
        (∀ (H : Hp) (a : Addr) (ns : List Int), ns.length ≤ n → SqL K H a (ns.map V.int) → sp [.ref a] H (fun v _ => v = .bl true) fun _ _ _ => False) ∧
        ∀ base : Heap, K.In base → base.Ns mainGlobals mg → FnG l.prog w K mg base k fa fd [x] sp) :
    PySem.W.WalkO q loose XP YP l.row.toRowW d [] (fun f vs => PySem.call f vs) := by
  refine Att.attach_call most hdf fun w s0 s1 mg mb fa o pm cd doc a us ns G Y ho hd hcd hmg hobj its hlen hg => ?_
  obtain ⟨K, fd, sp, kin, bt, hsp, hF⟩ := F w mg fa _ Y G.T.g hmg
  exact lawG kin G.T.g G.T.b G.T.builtins G.T.nolimit hg hobj its (Nat.le_trans hlen fit) room hF bt fun H hS => hsp H a ns hlen hS
end MI

namespace MI
open PySem PySem.Spec L2

/-! ### repr -/
def rRepr (K : PySem.W.Frag) : List V → Hp → VK → Prop := fun xs H Q => ∃ (x : V) (p : PyData), xs = [x] ∧ Dp K H x p ∧ p.showable = true ∧ p.hasDict = false ∧ p.depth ≤ 16 ∧ p.shown.length ≤ sizeLine ∧ Q (.str p.shown) H
section
variable {X : Cx}
theorem cr_repr (gd : X.A.guards = some []) (hu : X.A.units + 65 < cLine) : CallR X (.builtin "repr") (rRepr X.K) := by
  intro pins s σ H xs us Q I r h
  obtain ⟨x, p, rfl, dp, hs, hd, hdep, hz, q⟩ := h
  obtain ⟨u, rfl, rx⟩ := vals1 r
  have big : ∀ {a : Addr} {as : List Addr}, u = .ref a → Reads s.heap u p as → wpAny (model X.prog X.w) X.A (call (.builtin "repr") [u]) (EP X pins σ Q) X.xe s := by
    intro a as e rd
    subst e
    exact repr_of_reads' rd hs (fun z => by rw [hd] at z; cases z) gd (by omega) (fun _ _ z => z) (fun h' t tk hk => ⟨.str p.shown, H, I.kept hk, ⟨t, rfl⟩, q⟩) hz
  obtain ⟨as, rd⟩ := Dp.reads I p x u dp rx
  cases dp with
  | non => cases rx; exact PySem.P.repr_of_none ⟨.str "None", H, I.tok _, ⟨_, rfl⟩, q⟩
  | bl b => cases rx; exact PySem.P.repr_of_bool ⟨.str _, H, I.tok _, ⟨_, rfl⟩, q⟩
  | int i =>
    obtain ⟨t, rfl⟩ := rx
    exact PySem.P.repr_of_int (of_decide_eq_true hs) ⟨.str _, H, I.tok _, ⟨_, rfl⟩, q⟩
  | str y =>
    obtain ⟨t, rfl⟩ := rx
    exact PySem.P.repr_of_str ⟨.str _, H, I.tok _, ⟨_, rfl⟩, q⟩ hz
  | lst _ _ => cases rx; exact big rfl rd
  | tup _ _ => cases rx; exact big rfl rd
end
def gRepr : List D → Option D
  | [d] => match toPy d with
    | some p => if p.showable && (!p.hasDict && (decide (p.depth ≤ 16) && decide (p.shown.length ≤ sizeLine))) then some (.str p.shown) else none
    | none => none
  | _ => none
section
variable {cls : Nat → Addr} {own : Nat → Bool} {K : KX}
theorem ok_repr : FnOkD K cls own (rRepr K.K) gRepr := by
  intro G al m σ H xs da d Q r hx e k
  unfold gRepr at e
  split at e
  case h_2 => cases e
  next d0 =>
  split at e
  case h_2 => cases e
  next p e1 =>
  split at e
  case isFalse => cases e
  next hok =>
  cases e
  obtain ⟨x, rfl, hc⟩ := hx.one
  simp only [Bool.and_eq_true, Bool.not_eq_true', decide_eq_true_eq] at hok
  obtain ⟨h1, h2, h3, h4⟩ := hok
  exact ⟨x, p, rfl, hc.dp r.zh e1, h1, h2, h3, h4, k.keep r (.str _)⟩
/-! ### is -/
def gIsU (a b : D) : Option D := match a, b with
  | .bl x, .bl y => some (.bl (decide (x = y)))
  | a, b => gIsN a b
def gNotU (a b : D) : Option D := match a, b with
  | .bl x, .bl y => some (.bl (!decide (x = y)))
  | a, b => gNotN a b
abbrev rIsN0 : R2 := fun x y H Q => y = .non ∧ Q (.bl (decide (x = .non))) H
abbrev rNotN0 : R2 := fun x y H Q => y = .non ∧ Q (.bl (!decide (x = .non))) H
theorem op_isU {X : Cx} : OpR X (compareOp .Is) (rOr rIsN0 rIsB) := opR_or op_isN op_isBl
theorem op_notU {X : Cx} : OpR X (compareOp .IsNot) (rOr rNotN0 rNotB) := opR_or op_notN op_notBl
theorem ok_isU : OpOk K cls own (rOr rIsN0 rIsB) gIsU := by
  intro G al m σ H x y da db d Q r hx hy e k
  unfold gIsU at e
  split at e
  · cases e; cases hx.bl; cases hy.bl; exact .inr ⟨_, _, rfl, rfl, k.keep r (.bl _)⟩
  · exact .inl (ok_isN G al m σ H x y _ _ d Q r hx hy e k)
theorem ok_notU : OpOk K cls own (rOr rNotN0 rNotB) gNotU := by
  intro G al m σ H x y da db d Q r hx hy e k
  unfold gNotU at e
  split at e
  · cases e; cases hx.bl; cases hy.bl; exact .inr ⟨_, _, rfl, rfl, k.keep r (.bl _)⟩
  · exact .inl (ok_notN G al m σ H x y _ _ d Q r hx hy e k)
/-! ### dict(pairs) -/
def pairsD : List D → Option (List (D × D))
  | [] => some []
  | .tup [k, v] :: r => if isKey k then (pairsD r).map ((k, v) :: ·) else none
  | _ => none
def gDictP : List D → Option D
  | [.lst ds] => (pairsD ds).map fun ps => .dic (ps.foldl (fun acc q => dput acc q.1 q.2) [])
  | _ => none
def rDictP (K : PySem.W.Frag) : List V → Hp → VK → Prop := fun xs H Q => ∃ (a : Addr) (ps : List Addr) (kvs : List (Key × V)), xs = [.ref a] ∧ SqL K H a (ps.map V.ref) ∧ Paired (fun p kv => SqT K H p [kV kv.1, kv.2]) ps kvs ∧
    ∀ p, H p = none → Q (.ref p) (upd H p (.dK (mergeK [] kvs)))
theorem cr_dictP {X : Cx} (hc : X.calm = true) : CallR X (.type "dict") (rDictP X.K) := call_dictP hc
theorem kV_kD {Z : Hp} {al : List Addr} {v : V} {k : Key} (h : DV K Z al v (kD k)) : v = kV k := by
  cases k with
  | inl i => cases h; rfl
  | inr x => cases h; rfl
theorem pairs_of {Z H : Hp} {al : List Addr} (s : Same Z H) : ∀ {ds : List D} {xs : List V} {ps : List (D × D)}, DVs K Z al xs ds → pairsD ds = some ps →
    ∃ (as : List Addr) (kvs : List (Key × V)), xs = as.map V.ref ∧ Paired (fun p kv => SqT K.K H p [kV kv.1, kv.2]) as kvs ∧ ps.map Prod.fst = kvs.map (fun q => kD q.1) ∧ DVs K Z al (kvs.map Prod.snd) (ps.map Prod.snd)
  | [], _, ps, .nil, e => by cases e; exact ⟨[], [], rfl, .nil, rfl, .nil⟩
  | d :: ds, _, ps, .cons h t, e => by
    unfold pairsD at e
    split at e
    · next e0 => cases e0
    · next k v r e0 =>
      cases e0
      split at e
      · next hk =>
        cases q : pairsD ds with
        | none => rw [q] at e; cases e
        | some ps' =>
          rw [q] at e; cases e
          obtain ⟨as, kvs, rfl, i2, i3, i4⟩ := pairs_of s t q
          obtain ⟨k0, rfl⟩ := isKey_kD hk
          cases h with
          | tup h1 h2 =>
            cases h2 with
            | cons h3 h2 =>
              cases h2 with
              | cons h4 h2 =>
                cases h2
                cases kV_kD h3
                exact ⟨_ :: as, (k0, _) :: kvs, rfl, .cons (Same.tupS s h1) i2, by simp [i3], .cons h4 i4⟩
      · cases e
    · cases e
theorem fold_K {Z : Hp} {al : List Addr} : ∀ {kvs acc : List (Key × V)} {ps ac : List (D × D)}, ps.map Prod.fst = kvs.map (fun q => kD q.1) → DVs K Z al (kvs.map Prod.snd) (ps.map Prod.snd) → ac.map Prod.fst = acc.map (fun q => kD q.1) → DVs K Z al (acc.map Prod.snd) (ac.map Prod.snd) →
    (ps.foldl (fun acc q => dput acc q.1 q.2) ac).map Prod.fst = (mergeK acc kvs).map (fun q => kD q.1) ∧ DVs K Z al ((mergeK acc kvs).map Prod.snd) ((ps.foldl (fun acc q => dput acc q.1 q.2) ac).map Prod.snd)
  | [], acc, [], ac, _, _, e, r => ⟨e, r⟩
  | [], _, _ :: _, _, h, _, _, _ => by cases h
  | _ :: _, _, [], _, h, _, _, _ => by cases h
  | (k, v) :: kvs, acc, (dk, dv) :: ps, ac, h, hr, e, r => by
    have h' : dk :: ps.map Prod.fst = kD k :: kvs.map (fun q => kD q.1) := h
    injection h' with h1 h2
    subst h1
    cases hr with
    | cons r1 r2 =>
      obtain ⟨j1, j2⟩ := dput_K (k := k) r1 e r
      have q := fold_K (kvs := kvs) (ps := ps) h2 r2 j1 j2
      exact q
theorem ok_dictP : FnOkF K cls own (rDictP K.K) gDictP := by
  intro G al m σ H xs da d Q r hx e k
  unfold gDictP at e
  split at e
  · next ds =>
    cases q : pairsD ds with
    | none => rw [q] at e; cases e
    | some ps =>
      rw [q] at e; cases e
      obtain ⟨x, rfl, a, us, rfl, h1, r1⟩ := hx.one
      obtain ⟨as, kvs, rfl, i2, i3, i4⟩ := pairs_of r.zh r1 q
      refine ⟨a, as, kvs, rfl, .inl (.inl h1), i2, fun p hp => ?_⟩
      exact k G al p _ _ .refl (r.fresh hp) upd_same (r.hst.nog hp) (fold_K (acc := []) (ac := []) i3 i4 rfl .nil)
  · cases e
end
end MI

namespace MI
open PySem PySem.Spec L2

def dcLoop (vs : List Nat) (tg : Tg) (tt : Den Bool) (tk tv : Den D) : List D → List (D × D) → Den (List (D × D))
  | [], acc => .ret acc
  | d :: ds, acc => fun m => match tgSet tg d (wipeM m.sl vs) with
    | none => .bad
    | some sl => match tt { m with sl := sl } with
      | .ok true m2 => match tk m2 with
        | .ok k m3 => match tv m3 with
          | .ok v m4 => if isKey k && decide (acc.length < sizeLine) then dcLoop vs tg tt tk tv ds (dput acc k v) m4 else .bad
          | .bad => .bad
        | .bad => .bad
      | .ok false m2 => dcLoop vs tg tt tk tv ds acc m2
      | .bad => .bad
def eDc (src : Den (List D)) (vs : List Nat) (tg : Tg) (tt : Den Bool) (tk tv : Den D) : Den D := src.bind fun ds => fun m => match dcLoop vs tg tt tk tv ds [] m with
  | .ok acc m' => .ok (.dic acc) { m' with sl := backM m.sl m'.sl vs }
  | .bad => .bad
section
variable {cls : Nat → Addr} {own : Nat → Bool} {X : Cx} {K : KX} {src : Den (List D)} {tg : Tg} {ft : Den Bool} {fk fv : Den D} {vs : List Nat}
theorem tDc_of (hv : ∀ i ∈ vs, own i = false) (hsub : ∀ j ∈ tgSlots tg, j ∈ vs) {σ : St} {H : Hp} {Q : VK} (q : tF K cls own (eDc src vs tg ft fk fv) σ H Q) :
    tDc (tI K cls own src) (tG K cls own tg) (tDb K cls own ft) (tD K cls own fk) (tD K cls own fv) vs σ H Q := by
  obtain ⟨G, al, m, d, m', r, e, k⟩ := q
  obtain ⟨ds, m1, e1, e⟩ := bind_ok e
  split at e
  case h_2 => cases e
  next accF m9 e9 =>
  cases e
  refine ⟨G, al, m, ds, m1, r, e1, fun G1 al1 H1 J ev1 r1 wk D0 hD => ?_⟩
  have hn : G1 D0 = none := r1.hst.nog hD
  have nG1 : ∀ {b x}, G1 b = some x → b ≠ D0 := fun e z => by subst z; rw [hn] at e; cases e
  let W : Nat → Nat → Hp → Prop := fun i n H => n = ds.length - i ∧ i ≤ ds.length ∧ ∃ G2 al2 m2 kvs acc, Ev G1 al1 (delG G2 D0) al2 ∧ Rst K cls own G2 al2 { m2 with sl := wipeM m2.sl vs } (wipe σ vs) H ∧ G2 D0 = some (.frm, .dK kvs) ∧
    (acc.map Prod.fst = kvs.map (fun q => kD q.1) ∧ DVs K (Zof G2) al2 (kvs.map Prod.snd) (acc.map Prod.snd)) ∧ dcLoop vs tg ft fk fv (ds.drop i) acc m2 = .ok accF m9
  refine ⟨W, ⟨ds.length, rfl, Nat.zero_le _, putG G1 D0 .frm (.dK []), al1, m1, [], [], ?_, ?_, putG_same, ⟨rfl, .nil⟩, e9⟩, ?_⟩
  · have : delG (putG G1 D0 .frm (.dK [])) D0 = G1 := by
      funext b
      by_cases e : b = D0
      · subst e; rw [delG_same, hn]
      · rw [delG_ne e, putG_ne e]
    rw [this]; exact .refl
  · exact ((r1.wipe (vs := vs)).fresh hD).tag hn upd_same
  rintro i n H2 ⟨rfl, hi, G2, al2, m2, kvs, acc, ev2, r2, g2, ⟨c2, c3⟩, e2⟩
  have evG : Ev G1 al1 G2 al2 := ⟨fun a o e => by have := ev2.frz a o e; rw [delG_ne (nG1 e)] at this; exact this, fun a o e => by have := ev2.frm a o e; rw [delG_ne (nG1 e)] at this; exact this, ev2.al⟩
  by_cases hlt : i < ds.length
  · refine .inr ⟨wk.goes G2 al2 _ _ H2 i evG.z r2 hlt, W (i + 1) (ds.length - (i + 1)), fun H3 q3 => ⟨_, by omega, q3⟩, fun x H3 y => ?_⟩
    have hd : ds[i]? = some ds[i] := List.getElem?_eq_getElem hlt
    obtain ⟨G3, ev3, r3, dv, keep3⟩ := wk.yields G2 al2 _ _ H2 i x H3 _ evG.z r2 hd y
    have g3 : G3 D0 = some (.frm, .dK kvs) := ev3.frm _ _ g2
    rw [List.drop_eq_getElem_cons hlt, dcLoop] at e2
    dsimp only at e2
    split at e2
    · cases e2
    · next sl e3 =>
      refine ⟨G3, al2, _, _, sl, r3, dv, e3, fun σ4 r4 b4 => ⟨wipe_eq hsub b4, ?_⟩⟩
      have weq : wipe σ4 vs = wipe σ vs := wipe_eq (σ := σ) hsub b4
      split at e2
      · next m5 e5 =>
        refine ⟨G3, al2, _, true, m5, r4, e5, fun G5 al5 H5 ev5 r5 => iteT' ?_⟩
        split at e2
        · next dk m6 e6 =>
          split at e2
          · next dvv m7 e7 =>
            split at e2
            · next hok =>
              rw [Bool.and_eq_true] at hok
              obtain ⟨k0, rfl⟩ := isKey_kD hok.1
              refine ⟨G5, al5, m5, _, m6, r5, e6, fun G6 al6 v6 H6 ev6 r6 dv6 => ⟨G6, al6, m6, dvv, m7, r6, e7, fun G7 al7 v7 H7 ev7 r7 dv7 => ?_⟩⟩
              cases kV_kD dv6
              have g7 : G7 D0 = some (.frm, .dK kvs) := ev7.frm _ _ (ev6.frm _ _ (ev5.frm _ _ g3))
              have evs : Ev G2 al2 G7 al7 := ev3.trans (ev5.trans (ev6.trans ev7))
              have hlen : kvs.length < sizeLine := by
                have h := congrArg List.length c2
                simp only [List.length_map] at h
                rw [← h]; exact of_decide_eq_true hok.2
              obtain ⟨_, r8, hz8⟩ := r7.reframe (o' := .dK (putK kvs k0 v7)) g7
              obtain ⟨j1, j2⟩ := dput_K (k := k0) dv7 c2 (c3.ev evs)
              refine ⟨kvs, k0, rfl, r7.hst.gh _ _ _ g7, hlen, rfl, hlt, putG G7 D0 .frm (.dK (putK kvs k0 v7)), al7, m7, putK kvs k0 v7, dput acc (kD k0) dvv, ?_, ?_, putG_same, ⟨j1, by rw [hz8]; exact j2⟩, e2⟩
              · rw [del_put]
                refine ⟨fun a o e => ?_, fun a o e => ?_, evG.al.trans evs.al⟩
                · rw [delG_ne (nG1 e)]; exact evs.frz _ _ (evG.frz _ _ e)
                · rw [delG_ne (nG1 e)]; exact evs.frm _ _ (evG.frm _ _ e)
              · have := r8.wipe (vs := vs)
                rw [weq] at this
                exact this
            · cases e2
          · cases e2
        · cases e2
      · next m5 e5 =>
        refine ⟨G3, al2, _, false, m5, r4, e5, fun G5 al5 H5 ev5 r5 => iteF' ?_⟩
        have evs : Ev G2 al2 G5 al5 := ev3.trans ev5
        refine ⟨rfl, hlt, G5, al5, m5, kvs, acc, ?_, ?_, ev5.frm _ _ g3, ⟨c2, c3.ev evs⟩, e2⟩
        · refine ⟨fun a o e => ?_, fun a o e => ?_, evG.al.trans evs.al⟩
          · rw [delG_ne (nG1 e)]; exact evs.frz _ _ (evG.frz _ _ e)
          · rw [delG_ne (nG1 e)]; exact evs.frm _ _ (evG.frm _ _ e)
        · have := r5.wipe (vs := vs)
          rw [weq] at this
          exact this
      · cases e2
  · have en : i = ds.length := by omega
    subst en
    rw [List.drop_length] at e2
    cases e2
    refine .inl ⟨wk.stops G2 al2 _ _ H2 evG.z r2, ?_⟩
    obtain ⟨r3, hz3⟩ := r2.unframe g2
    have rb := r1.back ev2 r3 hv
    exact k (delG G2 D0) al2 D0 (.dK kvs) H2 (ev1.trans ev2) rb (r2.hst.gh _ _ _ g2) delG_same ⟨c2, by rw [hz3]; exact c3⟩
end
section
variable {cls : Nat → Addr} {own : Nat → Bool} {X : Cx} {kx vx te iter : Expr} {ifs : List Expr} {scope : Scope} {ow : List (Str × Nat)} {pos py spos : Pos} {src : Den (List D)} {tg : Tg} {ft : Den Bool} {fk fv : Den D} {i : Nat} {y : Str}
theorem sf_dc (hc : X.calm = true) (hN : X.N.Nodup) (hi : SI cls own X te iter src) (ok : BlkOk X.N X.env.scope scope ow)
    (hg : ∀ (s : Shared) (H : Hp) (C : Addr) (cl : List (Str × Addr)) (fp : List Addr), SG cls own (X.blk s H scope (compEnvC scope cl C X.env) fp) te tg)
    (ht : ∀ (s : Shared) (H : Hp) (C : Addr) (cl : List (Str × Addr)) (fp : List Addr), SBs cls own (X.blk s H scope (compEnvC scope cl C X.env) fp) ifs ft)
    (hk : ∀ (s : Shared) (H : Hp) (C : Addr) (cl : List (Str × Addr)) (fp : List Addr), SE cls own (X.blk s H scope (compEnvC scope cl C X.env) fp) kx fk)
    (he : ∀ (s : Shared) (H : Hp) (C : Addr) (cl : List (Str × Addr)) (fp : List Addr), SE cls own (X.blk s H scope (compEnvC scope cl C X.env) fp) vx fv)
    (hv : ∀ i ∈ ow.map (·.2), own i = false) (hsub : ∀ j ∈ tgSlots tg, j ∈ ow.map (·.2)) (hs : ∀ x, foldedSetIterable iter X.env x = pure x := by intro _; rfl) :
    SF cls own X (.DictComp kx vx [⟨te, iter, ifs, 0⟩] scope pos) (eDc src (ow.map (·.2)) tg ft fk fv) :=
  pe_imp (pe_dc (own := ow) hc hN hi ok hg ht hk he hs) fun _ _ _ q => tDc_of hv hsub q
/-- name = {k: v for ..}, the name a plain local one -/
theorem ps_setDcM {wi : TI} {g : TG} {tt : TT} {tk tv : TE} (hc : X.calm = true) (hN : X.N.Nodup) (hy : X.N[i]? = some y) (hyl : X.env.scope.names.lookup y = some .local)
    (hsw : swapsWith (.DictComp kx vx [⟨te, iter, ifs, 0⟩] scope pos) (some (.Name y py)) spos.line X.env = pure true) (hi : PI X te iter wi) (ok : BlkOk X.N X.env.scope scope ow)
    (hg : ∀ (s : Shared) (H : Hp) (C : Addr) (cl : List (Str × Addr)) (fp : List Addr), PG (X.blk s H scope (compEnvC scope cl C X.env) fp) te g)
    (ht : ∀ (s : Shared) (H : Hp) (C : Addr) (cl : List (Str × Addr)) (fp : List Addr), PTs (X.blk s H scope (compEnvC scope cl C X.env) fp) ifs tt)
    (hk : ∀ (s : Shared) (H : Hp) (C : Addr) (cl : List (Str × Addr)) (fp : List Addr), PE (X.blk s H scope (compEnvC scope cl C X.env) fp) kx tk)
    (he : ∀ (s : Shared) (H : Hp) (C : Addr) (cl : List (Str × Addr)) (fp : List Addr), PE (X.blk s H scope (compEnvC scope cl C X.env) fp) vx tv) (hs : ∀ x, foldedSetIterable iter X.env x = pure x) :
    PS X (.Assign [.Name y py] (.DictComp kx vx [⟨te, iter, ifs, 0⟩] scope pos) spos) (fun E σ H => tDc wi g tt tk tv (ow.map (·.2)) σ H fun x H1 => E.nx (σ.set i (some x)) H1) := by
  refine ⟨fun pins s σ H E I hq => ?_⟩
  rw [exec_Assign_Name_used _ _ _ _ hsw]
  refine wpAny_bind (wpAny_standAt (wpAny_bind ?_))
  show wpAny _ X.A (do let _ ← comprehension (.DictComp kx vx [⟨te, iter, ifs, 0⟩] scope pos) scope X.env (firstIterPos [⟨te, iter, ifs, 0⟩] pos) newDict false (eval iter X.env) (some (assign (.Name y py) X.env))) _ _ s
  refine wpAny_bind (thn (dc_core (Qf := fun _ s' => L2.SP X pins E .next s') hc hN I hi ok hg ht hk he hs hq fun L C s' mm H' J z hns fp => ?_) fun _ s' w => wpAny_pure (wpAny_pure w))
  show wpAny _ _ (assign (.Name y py) X.env (.ref L)) _ _ _
  refine wpAny_assign_Name (store_ok2 (v := V.ref L) J hN hy (.inl hyl) rfl (fun s2 J2 ⟨b, sb, hb⟩ => ?_) (.inr hyl))
  obtain ⟨p0, p1, p2, p3, p4, p5⟩ := fp
  have apart : C ≠ b := by
    rcases hb with e | e
    · rw [e]; exact p1
    · exact fun e2 => p4 y b e e2.symm
  exact ⟨mm, hns.sameBut sb apart, fun h3 sb3 => ⟨_, H', J2.turned (t' := s2.toks) (fun c o hne e => (sb3.2 c hne).trans e) p0 p1 p3 p4 p5, z⟩⟩
theorem ss_setDc (ho : own i = false) (hc : X.calm = true) (hN : X.N.Nodup) (hy : X.N[i]? = some y) (hyl : X.env.scope.names.lookup y = some .local)
    (hsw : swapsWith (.DictComp kx vx [⟨te, iter, ifs, 0⟩] scope pos) (some (.Name y py)) spos.line X.env = pure true) (hi : SI cls own X te iter src) (ok : BlkOk X.N X.env.scope scope ow)
    (hg : ∀ (s : Shared) (H : Hp) (C : Addr) (cl : List (Str × Addr)) (fp : List Addr), SG cls own (X.blk s H scope (compEnvC scope cl C X.env) fp) te tg)
    (ht : ∀ (s : Shared) (H : Hp) (C : Addr) (cl : List (Str × Addr)) (fp : List Addr), SBs cls own (X.blk s H scope (compEnvC scope cl C X.env) fp) ifs ft)
    (hk : ∀ (s : Shared) (H : Hp) (C : Addr) (cl : List (Str × Addr)) (fp : List Addr), SE cls own (X.blk s H scope (compEnvC scope cl C X.env) fp) kx fk)
    (he : ∀ (s : Shared) (H : Hp) (C : Addr) (cl : List (Str × Addr)) (fp : List Addr), SE cls own (X.blk s H scope (compEnvC scope cl C X.env) fp) vx fv)
    (hv : ∀ i ∈ ow.map (·.2), own i = false) (hsub : ∀ j ∈ tgSlots tg, j ∈ ow.map (·.2)) (hs : ∀ x, foldedSetIterable iter X.env x = pure x := by intro _; rfl) :
    SS cls own X (.Assign [.Name y py] (.DictComp kx vx [⟨te, iter, ifs, 0⟩] scope pos) spos) (sSet i (eDc src (ow.map (·.2)) tg ft fk fv)) := by
  refine ps_imp (ps_setDcM (ow := ow) (g := tG X.kx cls own tg) (tt := tDb X.kx cls own ft) (tk := tD X.kx cls own fk) (tv := tD X.kx cls own fv) hc hN hy hyl hsw hi ok hg ht hk he hs) fun E σ H q => ?_
  obtain ⟨G, al, m, fl, m', r, e, k⟩ := q
  obtain ⟨d, m1, e1, e⟩ := bind_ok e
  cases e
  refine tDc_of hv hsub ⟨G, al, m, d, m1, r, e1, fun G1 al1 p o H1 ev1 r1 hp hn c => ?_⟩
  have ev2 : Ev G1 al1 (putG G1 p .frz o) al1 := ev_put hn
  exact k _ al1 _ H1 (ev1.trans ev2) ((r1.tag hn hp).set (CO.frz (zof_of putG_same) (c.mono ev2.same ev2.al)) ho)
theorem ss_ownDc (ho : own i = true) (hc : X.calm = true) (hN : X.N.Nodup) (hy : X.N[i]? = some y) (hyl : X.env.scope.names.lookup y = some .local)
    (hsw : swapsWith (.DictComp kx vx [⟨te, iter, ifs, 0⟩] scope pos) (some (.Name y py)) spos.line X.env = pure true) (hi : SI cls own X te iter src) (ok : BlkOk X.N X.env.scope scope ow)
    (hg : ∀ (s : Shared) (H : Hp) (C : Addr) (cl : List (Str × Addr)) (fp : List Addr), SG cls own (X.blk s H scope (compEnvC scope cl C X.env) fp) te tg)
    (ht : ∀ (s : Shared) (H : Hp) (C : Addr) (cl : List (Str × Addr)) (fp : List Addr), SBs cls own (X.blk s H scope (compEnvC scope cl C X.env) fp) ifs ft)
    (hk : ∀ (s : Shared) (H : Hp) (C : Addr) (cl : List (Str × Addr)) (fp : List Addr), SE cls own (X.blk s H scope (compEnvC scope cl C X.env) fp) kx fk)
    (he : ∀ (s : Shared) (H : Hp) (C : Addr) (cl : List (Str × Addr)) (fp : List Addr), SE cls own (X.blk s H scope (compEnvC scope cl C X.env) fp) vx fv)
    (hv : ∀ i ∈ ow.map (·.2), own i = false) (hsub : ∀ j ∈ tgSlots tg, j ∈ ow.map (·.2)) (hs : ∀ x, foldedSetIterable iter X.env x = pure x := by intro _; rfl) :
    SS cls own X (.Assign [.Name y py] (.DictComp kx vx [⟨te, iter, ifs, 0⟩] scope pos) spos) (sSet i (eDc src (ow.map (·.2)) tg ft fk fv)) := by
  refine ps_imp (ps_setDcM (ow := ow) (g := tG X.kx cls own tg) (tt := tDb X.kx cls own ft) (tk := tD X.kx cls own fk) (tv := tD X.kx cls own fv) hc hN hy hyl hsw hi ok hg ht hk he hs) fun E σ H q => ?_
  obtain ⟨G, al, m, fl, m', r, e, k⟩ := q
  obtain ⟨d, m1, e1, e⟩ := bind_ok e
  cases e
  exact tDc_of hv hsub ⟨G, al, m, d, m1, r, e1, fun G1 al1 p o H1 ev1 r1 hp hn c => k _ al1 _ H1 (ev1.trans (ev_put hn)) (r1.setOwn hp hn c ho)⟩
end
end MI

namespace MI
open PySem PySem.Spec L2

theorem bt_repr : bootBuiltins "repr" = some (.builtin "repr") := by decide +kernel
theorem bt_dict : bootBuiltins "dict" = some (.type "dict") := by decide +kernel
theorem bt_set : bootBuiltins "set" = some (.type "set") := by decide +kernel
theorem bt_isinstance : bootBuiltins "isinstance" = some (.builtin "isinstance") := by decide +kernel
/-- d.get(k, x) -/
def eGet (fd fk : Den Hd) (fx : Den D) : Den D := fd.bind fun hd => fun m0 => match look hd m0 with
  | some (.dic _) => (fk.bind fun hk => fx.bind fun x => fun m => match look hd m, look hk m with
    | some (.dic ds), some k => if isKey k then .ok ((dget ds k).getD x) m else .bad
    | _, _ => .bad) m0
  | _ => .bad
section
variable {cls : Nat → Addr} {own : Nat → Bool} {X : Cx} {o e f : Expr} {apos cpos : Pos} {fd fk : Den Hd} {fx : Den D}
theorem se_get (hu : X.A.units + 65 < cLine) (ho : SH cls own X o fd) (he : SH cls own X e fk) (hf : SE cls own X f fx)
    (b1 : attributeBase o "get" X.env (eval o X.env) = eval o X.env := by rfl)
    (b2 : ((backTo cpos (starEach [e, f] X.env)).all (fun x => !x.1) && (backToKw cpos (keywordEach [] X.env)).all (fun x => x.1.isSome)
      && decide (([e, f] : List Expr).length + ([] : List Keyword).length + (if ([] : List Keyword).isEmpty then 0 else 1) < 30)) = true := by rfl)
    (b3 : (apos.endLine == cpos.line) = true := by rfl) (b4 : backTo cpos (starEach [e, f] X.env) = [(false, eval e X.env), (false, eval f X.env)] := by rfl) :
    SE cls own X (.Call (.Attribute o "get" apos) [e, f] [] cpos) (eGet fd fk fx) := by
  refine pe_imp (pe_dget2 (Nat.lt_of_le_of_lt (by omega) hu) ho he hf ⟨b1, b2, b3, b4⟩) fun σ H Q q => ?_
  obtain ⟨G, al, m, d, m', r, e, k⟩ := q
  obtain ⟨hd, m0, e0, e⟩ := bind_ok e
  split at e
  case h_2 => cases e
  next ds0 l0 =>
  obtain ⟨hk, m1, e1, e⟩ := bind_ok e
  obtain ⟨x, m2, e2, e⟩ := bind_ok e
  split at e
  case h_2 => cases e
  next ds dk l1 l2 =>
  split at e
  case isFalse => cases e
  next hkk =>
  cases e
  refine ⟨G, al, m, hd, m0, r, e0, fun G0 al0 v H0 ev0 r0 hv => ?_⟩
  obtain ⟨a, kvs0, rfl, h0, _⟩ := look_cr r0 hv l0
  refine ⟨a, rfl, .inl ⟨kvs0, h0⟩, G0, al0, m0, hk, m1, r0, e1, fun G1 al1 y H1 ev1 r1 hy => ⟨G1, al1, m1, x, _, r1, e2, fun G2 al2 z H2 ev2 r2 dz => ?_⟩⟩
  obtain ⟨a', kvs, ea, h2, c1, c2⟩ := look_cr r2 ((hv.ev ev1).ev ev2) l1
  cases ea
  obtain ⟨k0, rfl⟩ := isKey_kD hkk
  have hy2 := look_cr r2 (hy.ev ev2) l2
  cases hy2.key
  obtain ⟨i1, i2⟩ := dget_K k0 c1 c2
  refine ⟨valV kvs k0, .inl ⟨kvs, k0, h2, rfl, rfl⟩, ?_⟩
  have evs := (ev0.trans ev1).trans ev2
  cases q : dget ds (kD k0) with
  | none =>
    rw [i2 q]
    exact k G2 al2 z H2 evs r2 (by rw [q]; exact dz)
  | some w =>
    obtain ⟨u, h3, h4⟩ := i1 w q
    rw [h3]
    exact k G2 al2 u H2 evs r2 (by rw [q]; exact h4)
end
end MI

namespace MI
open PySem PySem.Spec L2

section
variable {X : Cx} {o e : Expr} {es : List Expr} {to : TE} {t : TA} {name : Str} {apos cpos : Pos} {id : String} {r : V → List V → Hp → VK → Prop}
def tyT (K : PySem.W.Frag) (x : V) (H : Hp) : Prop := ∃ a xs, x = .ref a ∧ SqN K H a xs
theorem tyT_is {pins : List (Addr × Obj)} {σ : St} {H : Hp} {s : Shared} {x : V} {v : Value} (I : Inv X pins σ H s) (rv : RelV x v) (ty : tyT X.K x H) : s.TypeIs v "tuple" ∧ ∀ a, v = .ref a → ∃ ob, s.heap.get? a = some ob ∧ ob.dict = none := by
  obtain ⟨a, xs, rfl, h⟩ := ty
  cases rv
  rcases h with ⟨ob, hd, hz⟩ | ⟨ob, its, n, hd, lk, hc, _⟩
  · obtain ⟨e1, _, its, _, o2, e2, c2, _⟩ := I.hok a _ hz
    rw [e1] at e2; cases e2
    exact ⟨⟨ob, e1, c2⟩, fun b e => by cases e; exact ⟨ob, e1, hd⟩⟩
  · exact ⟨⟨ob, I.kIn a ob lk, hc⟩, fun b e => by cases e; exact ⟨ob, I.kIn a ob lk, hd⟩⟩
theorem pe_bmT (slot : Slot "tuple" name id) (hty : typeOf (.builtin id) = pure (.type "method_descriptor")) (hm : MtR X id r) (ho : PE X o to) (ha : PA X (e :: es) t)
    (hbase : attributeBase o name X.env (eval o X.env) = eval o X.env := by rfl)
    (hfew : ((backTo cpos (starEach (e :: es) X.env)).all (fun x => !x.1) && (backToKw cpos (keywordEach [] X.env)).all (fun x => x.1.isSome)
      && decide ((e :: es).length + ([] : List Keyword).length + (if ([] : List Keyword).isEmpty then 0 else 1) < 30)) = true := by rfl)
    (hline : (apos.endLine == cpos.line) = true := by rfl) (hs : starEach (e :: es) X.env = (false, eval e X.env) :: starEach es X.env := by rfl) (hplain : (backTo cpos (starEach es X.env)).any (·.1) = false := by rfl) :
    PE X (.Call (.Attribute o name apos) (e :: es) [] cpos) (fun σ H Q => to σ H fun x H1 => tyT X.K x H1 ∧ t σ H1 fun xs H2 => r x xs H2 Q) := by
  refine ⟨fun pins s σ H Q I h => ?_⟩
  refine wpAny_Call_method_late hbase hfew hline rfl (thn (ho.run pins s σ H _ I h) fun v s1 ⟨x, H1, I1, r1, ty, q1⟩ => ?_)
  obtain ⟨h1, h2⟩ := tyT_is I1 r1 ty
  refine ⟨"tuple", id, PySem.F.plainAttrs_tuple, slot, hty, h1, h2, ?_⟩
  have hA := ha.run cpos pins s1 σ H1 _ I1 q1
  rw [hs] at hA ⊢
  refine Calls.callWith_builtin (by show (false || (backTo cpos (starEach es X.env)).any (·.1)) = false; rw [hplain] <;> rfl) (Calls.evalArgs_plain ?_)
  exact thn hA fun us s2 ⟨vs, H2, I2, r2, q2⟩ => hm pins s2 σ H2 x vs v us Q I2 r1 r2 q2
def rIndexT (K : PySem.W.Frag) : V → List V → Hp → VK → Prop := fun x xs H Q => ∃ (a : Addr) (y : V) (d : PyData) (ds : List PyData) (j : Nat) (z : PyData), x = V.ref a ∧ xs = [y] ∧ Dp K H (V.ref a) (.tuple ds) ∧ Dp K H y d ∧
  SeqAt.shaped (.tuple ds) = true ∧ SeqAt.shaped d = true ∧ ds[j]? = some z ∧ PyData.eqv z d = true ∧ (∀ (m : Nat) (z' : PyData), m < j → ds[m]? = some z' → PyData.eqv z' d = false) ∧ Q (.int (j : Nat)) H
theorem mt_indexT (hu : X.A.units + 65 < cLine) : MtR X "tuple.index" (rIndexT X.K) := by
  intro pins s σ H x xs v us Q I rx rxs h
  obtain ⟨a, y, d, ds, j, z, rfl, rfl, hl, hy, sl, sd, hz, hzj, hno, q⟩ := h
  cases rx
  obtain ⟨uy, rfl, ry⟩ := vals1 rxs
  obtain ⟨bs, ryd⟩ := Dp.reads I d y uy hy ry
  have lay : PyData.canLayAll0 ds = true := SeqAt.canLay_of_shaped sl
  have room : X.A.units + 1 + min (PyData.depthAll ds) d.depth < cLine := PyProof.Rows.room_in_shaped sd hu
  cases hl with
  | tup hs ha =>
    obtain ⟨its, rv, ⟨⟨oc, dd, dt, sls⟩, ho, hc, n, hd⟩, hlen⟩ := I.tuple hs
    simp only at hc hd
    subst hc hd
    obtain ⟨as, rda⟩ := Dp.readsAll I ds _ its ha rv
    have hn : its.length = ds.length := SeqAt.ReadsAll.length ds its as rda
    have hmap : its.map (SeqAt.readOf s.heap) = ds := SeqAt.readsAll_map ds its as lay rda
    have hjd := (List.getElem?_eq_some_iff.mp hz).1
    have hj : j < its.toArray.size := by rw [List.size_toArray]; omega
    have reads : ∀ (m : Nat) (hm : m < its.toArray.size) (z' : PyData), ds[m]? = some z' → SeqAt.readOf s.heap its.toArray[m] = z' := by
      intro m hm z' hz'
      have hml : m < its.length := by simpa using hm
      rw [← hmap, List.getElem?_map, List.getElem?_eq_getElem hml] at hz'
      simpa using hz'
    refine call_meets PySem.F.slot_tuple_index ⟨_, ho, rfl⟩ PySem.F.entry_tuple_index (PySem.F.args_tuple_index_2 _ _)
      (TI.tuple_indexAt a its.toArray n dd sls uy (fun u => PyData.eqv (SeqAt.readOf s.heap u) d) j hj ?_ ?_) ⟨ho, SeqAt.items_eqAt (vs := its.toArray) (show ReadsAll s.heap its.toArray.toList ds as from rda) ryd lay (SeqAt.canLay_of_shaped sd) room, ?_⟩
    · show PyData.eqv (SeqAt.readOf s.heap its.toArray[j]) d = true
      rw [reads j hj z hz]
      exact hzj
    · intro m hm hmj
      have hmd : m < ds.length := by omega
      show PyData.eqv (SeqAt.readOf s.heap its.toArray[m]) d = false
      rw [reads m hm _ (List.getElem?_eq_getElem hmd)]
      exact hno m _ hmj (List.getElem?_eq_getElem hmd)
    · exact ⟨.int (j : Nat), H, I.tok _, ⟨_, rfl⟩, q⟩
end
/-! ### by data -/
def idxP (d : PyData) : List PyData → Option Nat
  | [] => none
  | z :: r => if PyData.eqv z d then some 0 else (idxP d r).map (· + 1)
theorem idxP_ok {d : PyData} : ∀ {ds : List PyData} {j : Nat}, idxP d ds = some j → ∃ z, ds[j]? = some z ∧ PyData.eqv z d = true ∧ ∀ (m : Nat) (z' : PyData), m < j → ds[m]? = some z' → PyData.eqv z' d = false
  | [], j, h => by cases h
  | z :: r, j, h => by
    rw [idxP] at h
    split at h
    · next hz => cases h; exact ⟨z, rfl, hz, fun m _ hm => absurd hm (Nat.not_lt_zero _)⟩
    · next hz =>
      cases q : idxP d r with
      | none => rw [q] at h; cases h
      | some i =>
        rw [q] at h; cases h
        obtain ⟨z', h1, h2, h3⟩ := idxP_ok q
        refine ⟨z', by simpa using h1, h2, fun m w hm hw => ?_⟩
        cases m with
        | zero => simp at hw; subst hw; simpa using hz
        | succ m => exact h3 m w (Nat.lt_of_succ_lt_succ hm) (by simpa using hw)
def gIndex (t x : D) : Option D := match t with
  | .tup ds => match okE (.tup ds), okE x with
    | some (.tuple ps), some p => (idxP p ps).map fun j => .int (j : Nat)
    | _, _ => none
  | _ => none
/-- t.index(x), t a tuple by its value -/
def eIndex (fo : Den D) (fs : Den (List Hd)) : Den D := fo.bind fun o => fun m0 => match o with
  | .tup _ => match fs m0 with
    | .ok [h] m => match look h m with
      | some x => match gIndex o x with
        | some z => .ok z m
        | none => .bad
      | none => .bad
    | _ => .bad
  | _ => .bad
section
variable {cls : Nat → Addr} {own : Nat → Bool} {X : Cx} {o a : Expr} {apos cpos : Pos} {fo : Den D} {fs : Den (List Hd)}
theorem se_index (hu : X.A.units + 65 < cLine) (ho : SE cls own X o fo) (ha : SHs cls own X [a] fs)
    (hbase : attributeBase o "index" X.env (eval o X.env) = eval o X.env := by rfl)
    (hfew : ((backTo cpos (starEach [a] X.env)).all (fun x => !x.1) && (backToKw cpos (keywordEach [] X.env)).all (fun x => x.1.isSome)
      && decide ([a].length + ([] : List Keyword).length + (if ([] : List Keyword).isEmpty then 0 else 1) < 30)) = true := by rfl)
    (hline : (apos.endLine == cpos.line) = true := by rfl) (hs : starEach [a] X.env = (false, eval a X.env) :: starEach [] X.env := by rfl) (hplain : (backTo cpos (starEach [] X.env)).any (·.1) = false := by rfl) :
    SE cls own X (.Call (.Attribute o "index" apos) [a] [] cpos) (eIndex fo fs) := by
  refine pe_imp (pe_bmT PySem.F.slot_tuple_index PySem.F.type_tuple_index (mt_indexT hu) ho ha hbase hfew hline hs hplain) fun σ H Q q => ?_
  obtain ⟨G, al, m, d, m', r, e, k⟩ := q
  obtain ⟨dt, m0, e0, e⟩ := bind_ok e
  split at e
  case h_2 => cases e
  next ds =>
  split at e
  case h_2 => cases e
  next h m1 e1 =>
  split at e
  case h_2 => cases e
  next x l1 =>
  split at e
  case h_2 => cases e
  next z gz =>
  cases e
  unfold gIndex at gz
  dsimp only at gz
  split at gz
  case h_2 => cases gz
  next ps p q1 q2 =>
  cases qi : idxP p ps with
  | none => rw [qi] at gz; cases gz
  | some j =>
    rw [qi] at gz; cases gz
    refine ⟨G, al, m, _, m0, r, e0, fun G0 al0 v H0 ev0 r0 dv => ?_⟩
    cases dv with
    | tup h1 h2 =>
      refine ⟨⟨_, _, rfl, Same.tupN r0.zh h1⟩, G0, al0, m0, _, _, r0, e1, fun G1 al1 vs H1 ev1 r1 hv => ?_⟩
      cases hv with
      | cons hv1 hv2 =>
        cases hv2
        obtain ⟨t1, s1⟩ := okE_some q1
        obtain ⟨t2, s2⟩ := okE_some q2
        obtain ⟨z, i1, i2, i3⟩ := idxP_ok qi
        have dvt : DV X.kx (Zof G1) al1 (.ref _) (.tup ds) := (DV.tup h1 h2).ev ev1
        exact ⟨_, _, p, ps, j, z, rfl, rfl, dvt.dp r1.zh t1, (look_cr r1 hv1 l1).dp r1.zh t2, s1, s2, i1, i2, i3, k G1 al1 _ H1 (ev0.trans ev1) r1 (.int _)⟩
end
end MI

namespace MI
open PySem PySem.Spec L2

abbrev sO (w : World) : Obj := { cls := .type "set", dict := none, data := .set #[] 0 (.fresh 0 0 (!w.params.followText "set-order")) }
section
variable {P : Program} {w : World} {A : Around} {E : Value → Shared → Prop} {s : Shared}
/-- set(t), t a tuple of tuples of whole numbers -/
theorem set_of_tup {l : Addr} {its : Array Value} (ks : List (Addr × List Int)) {Q : Value → Shared → Prop} (hh : A.handled = none) (hl : s.heap.IsTuple l its) (hit : its.toList = ks.map fun p => Value.ref p.1)
    (hk : ∀ p ∈ ks, IsT P w s.heap p.2 p.1) (few : ks.length < 64) (hu : A.units + 3 < cLine)
    (h : ∀ (h' : Heap) (tk : Nat) L es ep t, SetTR P w h' s.heap.objs.size L es ep t → Got ks ks.length L → (∀ b o, s.heap.get? b = some o → h'.get? b = some o) → Q (.ref s.heap.objs.size) { s with heap := h', toks := tk }) :
    wpAny (model P w) A (call (.type "set") [.ref l]) Q E s := by
  have size : its.size = ks.length := by
    have q := congrArg List.length hit
    rwa [Array.length_toList, List.length_map] at q
  have cs := F.called_set
  obtain ⟨c, tl, hmro⟩ := cs.mro
  have m1 := cs.made
  have m2 := cs.sub
  refine wpAny_call (codeAny_of_tree ?_)
  show wpAny _ _ (callAny (.type "set") _) _ _ _
  refine wpAny_pure ⟨Code.quiet_builtin _ (by decide +kernel), codeAny_builtin F.entry_type_call ?_⟩
  rw [Around.under_plain (weight_type_call_type "set" [.ref l] []) rfl]
  have m3 := cs.notType
  have m4 := cs.canCreate
  have m5 := F.typeCall_set_1 (.ref l)
  repeat (any_goals (first | assumption | wp_step))
  refine codeAny_mono (code_set_led1 (.ref l) (E := E) (Q₁ := fun ob t1 => ob = .ref s.heap.objs.size ∧ t1 = { s with heap := s.heap.push (sO w) }) ⟨rfl, rfl⟩) fun res t1 hres => ?_
  cases res with
  | error ex => exact hres
  | ok fl => cases fl with
    | ret ob =>
      obtain ⟨rfl, rfl⟩ := hres
      have at0 : (s.heap.push (sO w)).get? s.heap.objs.size = some (sO w) := Heap.get?_push_size _ rfl
      have ty0 : Shared.TypeIs { s with heap := s.heap.push (sO w) } (.ref s.heap.objs.size) "set" := ⟨_, at0, rfl⟩
      have n1 := cs.init.lookup
      have n2 := cs.init.bind (.ref s.heap.objs.size)
      repeat (any_goals (first | assumption | wp_step))
      refine codeAny_mono (codeAny_call_builtin (R := wants (fun v t2 => v = .none ∧ ∃ h' tk L es ep t, t2 = { s with heap := h', toks := tk } ∧ SetTR P w h' s.heap.objs.size L es ep t ∧ Got ks ks.length L ∧
          (∀ b o, s.heap.get? b = some o → h'.get? b = some o)) E) cs.init.plain F.entry_set_init (check_set_init_1 ty0 ?_)) fun res2 t2 hres2 => ?_
      · obtain ⟨⟨oc, od, dt, osl⟩, hol, hcl, nl, hdl⟩ := hl
        simp only at hcl hdl
        subst hcl; subst hdl
        have hol1 : (s.heap.push (sO w)).get? l = some { cls := .type "tuple", dict := od, data := .seq its nl, slots := osl } := Heap.get?_push_of_some _ hol
        have p1 := F.sub_tuple_set
        have p2 := F.sub_tuple_frozenset
        have p3 : (Value.type "tuple" == Value.type "dict") = false := by decide
        have tup1 : (s.heap.push (sO w)).IsTuple l its := ⟨_, hol1, rfl, nl, rfl⟩
        unfold Builtin.«set.__init__» noKeywords Builtin.Frozenset.updateFrom
        generalize hPI : pyIter = PI
        wp_walk
        subst hPI
        refine wpAny_pyIter_tuple tup1 ?_
        refine wpAny_bind (wpAny_runValue ?_)
        have lt : l < s.heap.objs.size := Heap.lt_size hol
        have h3 : A.in1.in1.in1.handled = none := by simp [hh]
        have ne : l ≠ (s.heap.push (sO w)).objs.size := by rw [Heap.size_push]; exact Nat.ne_of_lt (Nat.lt_succ_of_lt lt)
        have out : s.heap.objs.size ∉ [(s.heap.push (sO w)).objs.size, l] := by
          rw [Heap.size_push]
          simp only [List.mem_cons, List.not_mem_nil, or_false, not_or]
          refine ⟨Nat.ne_of_lt (Nat.lt_succ_self _), Nat.ne_of_gt lt⟩
        have val : ∀ (i : Nat) (v : Value), its[i]? = some v → ∃ p, ks[i]? = some p ∧ v = .ref p.1 := fun i v hv => by
          have q : its.toList[i]? = some v := by rw [Array.getElem?_toList]; exact hv
          rw [hit, List.getElem?_map] at q
          obtain ⟨p, q1, q2⟩ := Option.map_eq_some_iff.mp q
          exact ⟨p, q1, q2.symm⟩
        have free : ∀ b, s.heap.objs.size ≤ b → s.heap.get? b = none := fun b hb => by
          cases q : s.heap.get? b with
          | none => rfl
          | some o => exact absurd (Nat.lt_of_lt_of_le (Heap.lt_size q) hb) (Nat.lt_irrefl _)
        refine set_update_tups ((Walks.tuple h3 _ l ne its).toS) s.heap.objs.size out ks size few val s.heap hk (free _ (Nat.le_refl _)) (fun b hb => free b (by rw [List.mem_singleton.mp hb, Heap.size_push]; exact Nat.le_succ _)) hu (its.size - 0) 0 _ (by omega) (Nat.zero_le _)
          ⟨⟨_, Heap.get?_push_size _ rfl, rfl, rfl⟩, tup1.push _⟩ (fun b o e => Heap.get?_push_of_some _ (Heap.get?_push_of_some _ e)) ⟨[], #[], 0, _, setTR_fresh (Heap.get?_push_of_some _ at0), Got.zero ks⟩ ?_
        intro t3 L es ep t mv st got kp
        obtain ⟨h', g2, d2, tk, os2⟩ := t3
        have eg : g2 = s.gens := mv.gens
        have ed : d2 = s.drawn := mv.drawn
        have eo : os2 = s.os := mv.os
        subst eg; subst ed; subst eo
        show wpAny _ _ _ _ _ _
        refine wpAny_pure ?_
        show wpAny _ _ (ret Value.none) _ _ _
        rw [size] at got
        exact wpAny_pure ⟨rfl, h', tk, L, es, ep, t, rfl, st, got, kp⟩
      · cases res2 with
        | error ex => exact hres2
        | ok fl2 => cases fl2 with
          | ret v =>
            obtain ⟨rfl, h', tk, L, es, ep, t, rfl, st, got, kp⟩ := hres2
            repeat (any_goals (first | assumption | wp_step))
            exact h _ _ _ _ _ _ st got kp
          | _ => exact hres2.elim
    | _ => exact hres.elim
end
end MI

namespace MI
open PySem PySem.Spec L2

def lenP (a : Addr) (n : Nat) : Heap → Prop := fun h => ∃ o es ep t, h.get? a = some o ∧ o.ExactSet ∧ o.data = .set es ep t ∧ t.fits es.size = true ∧ es.size = n
def lenO (a : Addr) (n : Nat) : HO := .ext (lenP a n)
theorem lenO_ok {P : Program} {w : World} {H : Hp} {h : Heap} {a : Addr} {n : Nat} (x : lenP a n h) : ObjOk P w H h a (lenO a n) := by
  obtain ⟨o, es, ep, t, e, r⟩ := x
  exact ⟨⟨o, es, ep, t, e, r⟩, ⟨o, e⟩, fun h1 h2 ⟨o1, es1, ep1, t1, e1, r1⟩ k => ⟨o1, es1, ep1, t1, k _ e1, r1⟩⟩
/-- unlike ones, the first of each -/
def uniq {α : Type} [DecidableEq α] : List α → List α
  | [] => []
  | x :: xs => if x ∈ xs then uniq xs else x :: uniq xs
section
variable {α : Type} [DecidableEq α]
theorem uniq_mem {x : α} : ∀ {l : List α}, x ∈ uniq l ↔ x ∈ l
  | [] => by simp [uniq]
  | y :: l => by
    rw [uniq]
    split
    · next h => rw [uniq_mem, List.mem_cons]; exact ⟨.inr, fun z => z.elim (fun e => e ▸ h) id⟩
    · rw [List.mem_cons, List.mem_cons, uniq_mem]
theorem uniq_nodup : ∀ l : List α, (uniq l).Nodup
  | [] => by rw [uniq]; exact List.nodup_nil
  | y :: l => by
    rw [uniq]
    split
    · exact uniq_nodup l
    · next h => exact List.nodup_cons.mpr ⟨fun z => h (uniq_mem.mp z), uniq_nodup l⟩
theorem nodup_le : ∀ {l m : List α}, l.Nodup → (∀ x ∈ l, x ∈ m) → l.length ≤ m.length
  | [], _, _, _ => Nat.zero_le _
  | x :: l, m, h, hs => by
    rw [List.nodup_cons] at h
    have hx : x ∈ m := hs x (List.mem_cons_self ..)
    have := nodup_le (l := l) (m := m.erase x) h.2 fun y hy => (List.mem_erase_of_ne (by rintro rfl; exact h.1 hy)).mpr (hs y (List.mem_cons_of_mem _ hy))
    rw [List.length_erase_of_mem hx] at this
    have hp : 0 < m.length := List.length_pos_of_mem hx
    rw [List.length_cons]; omega
theorem nodup_len {l m : List α} (h1 : l.Nodup) (h2 : m.Nodup) (h : ∀ x, x ∈ l ↔ x ∈ m) : l.length = m.length := Nat.le_antisymm (nodup_le h1 fun x hx => (h x).mp hx) (nodup_le h2 fun x hx => (h x).mpr hx)
end
section
variable {X : Cx}
/-- set(t), t a tuple of tuples of whole numbers -/
def rSetT (K : PySem.W.Frag) : List V → Hp → VK → Prop := fun xs H Q => ∃ (l : Addr) (ks : List (Addr × List Int)), xs = [.ref l] ∧ SqT K H l (ks.map fun p => V.ref p.1) ∧ (∀ p ∈ ks, SqT K H p.1 (p.2.map V.int)) ∧ ks.length < 64 ∧
  ∀ q, H q = none → Q (.ref q) (upd H q (lenO q (uniq (ks.map (·.2))).length))
theorem cr_setT (hc : X.calm = true) (hu : X.A.units + 65 < cLine) : CallR X (.type "set") (rSetT X.K) := by
  intro pins s σ H xs us Q I r h
  obtain ⟨l, ks, rfl, hl, hk, few, q⟩ := h
  rw [Vals.ref1 r]
  obtain ⟨its, rv, pl, hz⟩ := I.tuple hl
  refine set_of_tup (P := X.prog) (w := X.w) (its := its.toArray) ks (I.ok.hd hc) pl (by simpa using refs_of_vals rv) (fun p hp => I.isT (hk p hp)) few (by omega) fun h' tk L es ep t R g k => ?_
  have n1 : L.length = (uniq (ks.map (·.2))).length := by
    rw [← List.length_map (f := (·.2))]
    refine nodup_len R.nd (uniq_nodup _) fun x => ?_
    rw [uniq_mem]
    constructor
    · intro hx
      obtain ⟨p, hp, rfl⟩ := List.mem_map.mp hx
      exact List.mem_map.mpr ⟨p, List.mem_of_mem_take (g.sub p hp), rfl⟩
    · intro hx
      obtain ⟨p, hp, rfl⟩ := List.mem_map.mp hx
      exact g.all p (by rw [List.take_length]; exact hp)
  obtain ⟨o, ho, hex, hd⟩ := R.ob
  have R' : SetTR X.prog X.w { s with heap := h' : Shared }.heap s.heap.objs.size L es ep t := R
  refine ⟨.ref s.heap.objs.size, _, I.laid (t' := tk) k (Nat.le_refl _) (lenO_ok ⟨o, es, ep, t, ho, hex, hd, R'.fits, R'.size.trans n1⟩), rfl, q _ (I.hok.fresh (Nat.le_refl _))⟩
/-- set(l), l a list of whole numbers -/
def rSetI (K : PySem.W.Frag) : List V → Hp → VK → Prop := fun xs H Q => ∃ (l : Addr) (ns : List Int), xs = [.ref l] ∧ SqL K H l (ns.map V.int) ∧ ns.length < 1000 ∧ ∀ q, H q = none → Q (.ref q) (upd H q (lenO q (uniq ns).length))
theorem met_nodup (f : Nat → Int) : ∀ i, (PyProof.Rows.firstMet f i).Nodup
  | 0 => List.nodup_nil
  | i + 1 => by
    rw [PyProof.Rows.firstMet_succ]
    unfold PyProof.Rows.step_dedup
    split
    · exact met_nodup f i
    · next h =>
      rw [List.nodup_append]
      refine ⟨met_nodup f i, by simp, fun a ha b hb => ?_⟩
      rw [List.mem_singleton] at hb
      subst hb
      rintro rfl
      exact h (List.any_eq_true.mpr ⟨_, ha, beq_self_eq_true _⟩)
theorem met_len (ns : List Int) : (PyProof.Rows.firstMet (fun i => ns.getD i 0) ns.length).length = (uniq ns).length := by
  refine nodup_len (met_nodup _ _) (uniq_nodup _) fun x => ?_
  have h1 := PyProof.Rows.firstMet_any (fun i => ns.getD i 0) ns.length x
  have h2 : (List.range ns.length).map (fun i => ns.getD i 0) = ns := by
    apply List.ext_getElem?
    intro j
    rw [List.getElem?_map]
    by_cases hj : j < ns.length
    · rw [List.getElem?_range hj, Option.map_some, List.getD_eq_getElem?_getD, List.getElem?_eq_getElem hj]; rfl
    · rw [List.getElem?_eq_none (by simpa using hj), List.getElem?_eq_none (by omega)]; rfl
  rw [h2] at h1
  rw [uniq_mem]
  have e : ∀ l : List Int, (l.any (· == x)) = true ↔ x ∈ l := fun l => by simp [List.any_eq_true]
  rw [← e, ← e, h1]
theorem cr_setI (hc : X.calm = true) : CallR X (.type "set") (rSetI X.K) := by
  intro pins s σ H xs us Q I r h
  obtain ⟨l, ns, rfl, hl, few, q⟩ := h
  rw [Vals.ref1 r]
  obtain ⟨its, rv, pl, hz⟩ := I.list hl
  have hi : PyProof.Rows.IntsAre its ns := intsAre_of rv
  have sz : its.toArray.size = ns.length := by rw [List.size_toArray, ← rv.length, List.length_map]
  refine call_set_list (prog := X.prog) (w := X.w) (items := its.toArray) (ns := ns) (I.ok.hd hc) pl.isList hi (by rw [sz]; unfold scanBound; omega) fun h' tk so k => ?_
  rw [sz, met_len] at so
  obtain ⟨o, es, ep, t, e, hex, hd, _, _, _, hf, hn⟩ := so
  exact ⟨.ref s.heap.objs.size, _, I.laid (t' := tk) (fun b u q => k b u (Heap.lt_size q) q) (Nat.le_refl _) (lenO_ok ⟨o, es, ep, t, e, hex, hd, hf, hn⟩), rfl, q _ (I.hok.fresh (Nat.le_refl _))⟩
def rLenS : List V → Hp → VK → Prop := fun xs H Q => ∃ (a : Addr) (n : Nat), xs = [.ref a] ∧ H a = some (lenO a n) ∧ n < 2 ^ 62 ∧ Q (.int (n : Nat)) H
theorem cr_lenS : CallR X (.builtin "len") rLenS := by
  intro pins s σ H xs us Q I r h
  obtain ⟨a, n, rfl, ha, hn, q⟩ := h
  rw [Vals.ref1 r]
  obtain ⟨⟨o, es, ep, t, e, hex, hd, hf, hs⟩, _⟩ := I.hok a _ ha
  subst hs
  exact call_len_set e hex hd hf (by omega) ⟨.int _, H, (I.tok _).tok _, ⟨_, rfl⟩, q⟩
end
/-! ### by data -/
def intsT : List D → Option (List (List Int))
  | [] => some []
  | .tup ds :: r => match ints? ds, intsT r with
    | some ns, some nr => some (ns :: nr)
    | _, _ => none
  | _ => none
def gLenSet : D → Option D
  | .lst ds => match ints? ds with
    | some ns => if ns.length < 1000 then some (.int ((uniq ns).length : Nat)) else none
    | none => none
  | .tup ds => match intsT ds with
    | some ns => if ns.length < 64 then some (.int ((uniq ns).length : Nat)) else none
    | none => none
  | _ => none
section
variable {K : KX} {Z H : Hp} {al : List Addr}
theorem intsT_of (s : Same Z H) : ∀ {ds : List D} {xs : List V} {ns : List (List Int)}, DVs K Z al xs ds → intsT ds = some ns → ∃ ks : List (Addr × List Int), xs = (ks.map fun p => V.ref p.1) ∧ ks.map (·.2) = ns ∧ ∀ p ∈ ks, SqT K.K H p.1 (p.2.map V.int)
  | [], _, ns, .nil, e => by cases e; exact ⟨[], rfl, rfl, fun p hp => by cases hp⟩
  | d :: ds, _, ns, .cons h t, e => by
    unfold intsT at e
    split at e
    · next e0 => cases e0
    · next es r e0 =>
      cases e0
      split at e
      · next n1 nr q1 q2 =>
        cases e
        obtain ⟨ks, rfl, rfl, i3⟩ := intsT_of s t q2
        cases h with
        | tup h1 h2 =>
          cases h2.ints q1
          refine ⟨(_, n1) :: ks, rfl, rfl, fun p hp => ?_⟩
          rcases List.mem_cons.mp hp with rfl | hp
          · exact Same.tupS s h1
          · exact i3 p hp
      · cases e
    · cases e
end
def eLenSet (fa : Den Hd) : Den D := eUn gLenSet fa
section
variable {cls : Nat → Addr} {own : Nat → Bool} {X : Cx} {a : Expr} {fa : Den Hd} {p1 p2 p3 p4 : Pos}
theorem cr_setU (hc : X.calm = true) (hu : X.A.units + 65 < cLine) : CallR X (.type "set") (cOr (rSetI X.K) (rSetT X.K)) := callR_or (cr_setI hc) (cr_setT hc hu)
theorem uniq_le {α : Type} [DecidableEq α] (l : List α) : (uniq l).length ≤ l.length := nodup_le (uniq_nodup l) fun x hx => uniq_mem.mp hx
theorem se_lenSet (hu : X.A.units + 65 < cLine) (hc : X.calm = true) (hg1 : Gl X "len") (hm1 : X.mg "len" = none) (hg2 : Gl X "set") (hm2 : X.mg "set" = none) (ha : SH cls own X a fa)
    (s1 : starEach [a] X.env = (false, eval a X.env) :: starEach [] X.env := by rfl) (s2 : starEach [.Call (.Name "set" p2) [a] [] p3] X.env = (false, eval (.Call (.Name "set" p2) [a] [] p3) X.env) :: starEach [] X.env := by rfl)
    (q1 : (backTo p4 (starEach [] X.env)).any (·.1) = false := by rfl) (q2 : (backTo p3 (starEach [] X.env)).any (·.1) = false := by rfl) :
    SE cls own X (.Call (.Name "len" p1) [.Call (.Name "set" p2) [a] [] p3] [] p4) (eLenSet fa) := by
  refine pe_imp (pe_callB cr_lenS hg1 hm1 bt_len (pa_cons (pe_callTy (cr_setU hc hu) hg2 hm2 bt_set (pa_cons ha pa_nil s1) (by decide) (by decide) s1 q2) pa_nil s2) (by decide) (by decide) s2 q1) fun σ H Q q => ?_
  obtain ⟨G, al, m, d, m', r, e, k⟩ := q
  obtain ⟨h1, x, e1, l1, gz⟩ := eUn_ok e
  refine ⟨G, al, m, h1, m', r, e1, fun G1 al1 v H1 ev1 r1 hv1 => ?_⟩
  have cr := look_cr r1 hv1 l1
  have fin : ∀ (q : Addr) (n : Nat), H1 q = none → n < 2 ^ 62 → d = .int (n : Nat) → rLenS [.ref q] (upd H1 q (lenO q n)) Q := by
    intro q n hq hn hd
    subst hd
    refine ⟨q, n, rfl, upd_same, hn, k G1 al1 _ _ ev1 (r1.fresh hq) (.int _)⟩
  unfold gLenSet at gz
  split at gz
  · next ds =>
    split at gz
    · next ns q1 =>
      split at gz
      · next hf =>
        cases gz
        obtain ⟨p, xs, rfl, h2, c2⟩ := cr
        cases c2.ints q1
        have := uniq_le ns
        exact .inl ⟨p, ns, rfl, .inl (.inl h2), hf, fun q hq => fin q _ hq (by omega) rfl⟩
      · cases gz
    · cases gz
  · next ds =>
    split at gz
    · next ns q1 =>
      split at gz
      · next hf =>
        cases gz
        obtain ⟨p, xs, rfl, h2, c2⟩ := cr.tup
        obtain ⟨ks, rfl, i2, i3⟩ := intsT_of r1.zh c2 q1
        subst i2
        have := uniq_le (ks.map (·.2))
        exact .inr ⟨p, ks, rfl, Same.tupS r1.zh h2, i3, by simpa using hf, fun q hq => fin q _ hq (by omega) rfl⟩
      · cases gz
    · cases gz
  · cases gz
end
end MI

namespace MI
open PySem PySem.Spec L2

/-! ### what each part does at a state, for simp -/
section
variable {α β : Type} {m : MS} {f g : Den D} {b b2 : Den Bool} {s s2 : Den Fl} {h h2 : Den Hd} {hs hs2 : Den (List Hd)} {l l2 : Den (List D)} {i : Nat} {d : D} {is : List Nat} {tg : Tg}
@[simp] theorem eVar_at : eVar i m = match m.sl[i]? with
  | some (some d) => .ok d m
  | _ => .bad := rfl
@[simp] theorem eC_at : eC d m = .ok d m := rfl
@[simp] theorem hSlot_at : hSlot i m = match m.sl[i]? with
  | some (some _) => .ok (.slot i) m
  | _ => .bad := rfl
@[simp] theorem ret_at {a : α} : Den.ret a m = .ok a m := rfl
@[simp] theorem hVal_at : hVal f m = match f m with
  | .ok d m1 => .ok (.val d) m1
  | .bad => .bad := by
  simp only [hVal, Den.bind, Den.ret]
  repeat' (first | rfl | split)
  all_goals simp_all
@[simp] theorem aNil_at : aNil m = .ok [] m := rfl
@[simp] theorem aCons_at : aCons h hs m = match h m with
  | .ok d m1 => match hs m1 with
    | .ok ds m2 => .ok (d :: ds) m2
    | .bad => .bad
  | .bad => .bad := by
  simp only [aCons, Den.bind, Den.ret]
  repeat' (first | rfl | split)
  all_goals simp_all
@[simp] theorem eOp_at {G : D → D → Option D} : eOp G h h2 m = match h m with
  | .ok x m1 => match h2 m1 with
    | .ok y m2 => match look x m2, look y m2 with
      | some u, some v => match G u v with
        | some z => .ok z m2
        | none => .bad
      | _, _ => .bad
    | .bad => .bad
  | .bad => .bad := by
  simp only [eOp, Den.bind, Den.ret]
  repeat' (first | rfl | split)
  all_goals simp_all
@[simp] theorem eUn_at {G : D → Option D} : eUn G h m = match h m with
  | .ok x m1 => match look x m1 with
    | some u => match G u with
      | some z => .ok z m1
      | none => .bad
    | none => .bad
  | .bad => .bad := by
  simp only [eUn, Den.bind, Den.ret]
  repeat' (first | rfl | split)
  all_goals simp_all
@[simp] theorem eFn_at {G : List D → Option D} : eFn G hs m = match hs m with
  | .ok xs m1 => match looks xs m1 with
    | some us => match G us with
      | some z => .ok z m1
      | none => .bad
    | none => .bad
  | .bad => .bad := by
  simp only [eFn, Den.bind, Den.ret]
  repeat' (first | rfl | split)
  all_goals simp_all
@[simp] theorem eTup_at : eTup hs m = match hs m with
  | .ok xs m1 => match looksV xs with
    | some ds => if fitL ds.length then .ok (.tup ds) m1 else .bad
    | none => .bad
  | .bad => .bad := by
  simp only [eTup, Den.bind, Den.ret]
  repeat' (first | rfl | split)
  all_goals simp_all
@[simp] theorem eLst_at : eLst hs m = match hs m with
  | .ok xs m1 => match looksV xs with
    | some ds => if fitL ds.length then .ok (.lst ds) m1 else .bad
    | none => .bad
  | .bad => .bad := by
  simp only [eLst, Den.bind, Den.ret]
  repeat' (first | rfl | split)
  all_goals simp_all
@[simp] theorem bTru_at : bTru h m = match h m with
  | .ok x m1 => match look x m1 with
    | some d => match gTru d with
      | some b => .ok b m1
      | none => .bad
    | none => .bad
  | .bad => .bad := by
  simp only [bTru, Den.bind, Den.ret]
  repeat' (first | rfl | split)
  all_goals simp_all
@[simp] theorem bOf_at : bOf f m = match f m with
  | .ok d m1 => match d with
    | .bl c => .ok c m1
    | _ => .bad
  | .bad => .bad := by
  simp only [bOf, Den.bind, Den.ret]
  cases f m with
  | bad => rfl
  | ok d m1 => cases d <;> rfl
@[simp] theorem bAnd_at : bAnd b b2 m = match b m with
  | .ok c m1 => if c then b2 m1 else .ok false m1
  | .bad => .bad := by
  simp only [bAnd, Den.bind, Den.ret]
  repeat' (first | rfl | split)
  all_goals simp_all
@[simp] theorem bOr_at : bOr b b2 m = match b m with
  | .ok c m1 => if c then .ok true m1 else b2 m1
  | .bad => .bad := by
  simp only [bOr, Den.bind, Den.ret]
  repeat' (first | rfl | split)
  all_goals simp_all
@[simp] theorem bNot_at : bNot b m = match b m with
  | .ok c m1 => .ok (!c) m1
  | .bad => .bad := by
  simp only [bNot, Den.bind, Den.ret]
  repeat' (first | rfl | split)
  all_goals simp_all
@[simp] theorem eIf_at : eIf b f g m = match b m with
  | .ok c m1 => if c then f m1 else g m1
  | .bad => .bad := by
  simp only [eIf, Den.bind, Den.ret]
  repeat' (first | rfl | split)
  all_goals simp_all
@[simp] theorem eAnd_at : eAnd f g m = match bOf f m with
  | .ok c m1 => if c then g m1 else .ok (.bl false) m1
  | .bad => .bad := by
  simp only [eAnd, Den.bind, Den.ret]
  repeat' (first | rfl | split)
  all_goals simp_all
@[simp] theorem eOr_at : eOr f g m = match bOf f m with
  | .ok c m1 => if c then .ok (.bl true) m1 else g m1
  | .bad => .bad := by
  simp only [eOr, Den.bind, Den.ret]
  repeat' (first | rfl | split)
  all_goals simp_all
@[simp] theorem eNot_at : eNot f m = match bOf f m with
  | .ok c m1 => .ok (.bl (!c)) m1
  | .bad => .bad := by
  simp only [eNot, Den.bind, Den.ret]
  repeat' (first | rfl | split)
  all_goals simp_all
@[simp] theorem aVals_at : aVals hs m = match hs m with
  | .ok xs m1 => match looksV xs with
    | some ds => .ok ds m1
    | none => .bad
  | .bad => .bad := by
  simp only [aVals, Den.bind, Den.ret]
  repeat' (first | rfl | split)
  all_goals simp_all
@[simp] theorem sSeq_at : sSeq s s2 m = match s m with
  | .ok fl m1 => match fl with
    | .nx => s2 m1
    | fl => .ok fl m1
  | .bad => .bad := by
  simp only [sSeq, Den.bind, Den.ret]
  repeat' (first | rfl | split)
  all_goals simp_all
@[simp] theorem sNx_at : sNx m = .ok .nx m := rfl
@[simp] theorem sDrop_at : sDrop f m = match f m with
  | .ok _ m1 => .ok .nx m1
  | .bad => .bad := by
  simp only [sDrop, Den.bind, Den.ret]
  repeat' (first | rfl | split)
  all_goals simp_all
@[simp] theorem sRet_at : sRet f m = match f m with
  | .ok d m1 => .ok (.rt d) m1
  | .bad => .bad := by
  simp only [sRet, Den.bind, Den.ret]
  repeat' (first | rfl | split)
  all_goals simp_all
@[simp] theorem sIf_at : sIf b s s2 m = match b m with
  | .ok c m1 => if c then s m1 else s2 m1
  | .bad => .bad := by
  simp only [sIf, Den.bind, Den.ret]
  repeat' (first | rfl | split)
  all_goals simp_all
@[simp] theorem sSet_at : sSet i f m = match f m with
  | .ok d m1 => .ok .nx ⟨m1.sl.set i (some d), m1.st⟩
  | .bad => .bad := by
  simp only [sSet, Den.bind, Den.ret]
  repeat' (first | rfl | split)
  all_goals simp_all
@[simp] theorem sAsg_at : sAsg tg f m = match f m with
  | .ok d m1 => match tgSet tg d m1.sl with
    | some sl => .ok .nx ⟨sl, m1.st⟩
    | none => .bad
  | .bad => .bad := by
  simp only [sAsg, Den.bind, Den.ret]
  repeat' (first | rfl | split)
  all_goals simp_all
@[simp] theorem iSeq_at : iSeq f m = match f m with
  | .ok d m1 => match d with
    | .lst ds => .ok ds m1
    | .tup ds => .ok ds m1
    | _ => .bad
  | .bad => .bad := by
  simp only [iSeq, Den.bind, Den.ret]
  cases f m with
  | bad => rfl
  | ok d m1 => cases d <;> rfl
@[simp] theorem sFor_at : sFor l tg s m = match l m with
  | .ok ds m1 => loopD tg s ds m1
  | .bad => .bad := by
  simp only [sFor, Den.bind, Den.ret]
  repeat' (first | rfl | split)
  all_goals simp_all
@[simp] theorem mNil_at : mNil m = .ok [] m := rfl
@[simp] theorem mCons_at : mCons f l m = match f m with
  | .ok d m1 => match l m1 with
    | .ok ds m2 => .ok (d :: ds) m2
    | .bad => .bad
  | .bad => .bad := by
  simp only [mCons, Den.bind, Den.ret]
  repeat' (first | rfl | split)
  all_goals simp_all
@[simp] theorem sMulti_at : sMulti is l m = match l m with
  | .ok ds m1 => if ds.length = is.length then .ok .nx ⟨setD m1.sl is ds, m1.st⟩ else .bad
  | .bad => .bad := by
  simp only [sMulti, Den.bind, Den.ret]
  repeat' (first | rfl | split)
  all_goals simp_all
@[simp] theorem eShare_at : eShare f m = match f m with
  | .ok d m1 => match d with
    | .lst ds => .ok (.obj m1.st.length) ⟨m1.sl, m1.st ++ [.lst ds]⟩
    | _ => .bad
  | .bad => .bad := by
  simp only [eShare, Den.bind, Den.ret]
  cases f m with
  | bad => rfl
  | ok d m1 => cases d <;> rfl
@[simp] theorem sPutO_at : sPutO f h g m = match g m with
  | .ok v m1 => match f m1 with
    | .ok o m2 => match h m2 with
      | .ok hk m3 => match o with
        | .obj n => match m3.st[n]?, look hk m3 with
          | some (.lst ds), some k => match gSet (.lst ds) k v with
            | some (.lst ds') => .ok .nx ⟨m3.sl, m3.st.set n (.lst ds')⟩
            | _ => .bad
          | _, _ => .bad
        | _ => .bad
      | .bad => .bad
    | .bad => .bad
  | .bad => .bad := by
  simp only [sPutO, Den.bind, Den.ret]
  cases g m with
  | bad => rfl
  | ok v m1 =>
    try dsimp only
    all_goals
      cases f m1 with
      | bad => rfl
      | ok o m2 =>
        try dsimp only
        all_goals
          cases h m2 with
          | bad => rfl
          | ok hk m3 => cases o <;> rfl
@[simp] theorem eCallK_at {fn : Fn} {sp : List Src} {dd : List D} : eCallK fn sp dd l l2 m = match l m with
  | .ok ds m1 => match l2 m1 with
    | .ok es m2 => match fn (arr sp ds dd es) m2.st with
      | some (d, st) => .ok d ⟨m2.sl, st⟩
      | none => .bad
    | .bad => .bad
  | .bad => .bad := by
  simp only [eCallK, Den.bind, Den.ret]
  cases l m with
  | bad => rfl
  | ok ds m1 =>
    try dsimp only
    all_goals
      cases l2 m1 with
      | bad => rfl
      | ok es m2 =>
        try dsimp only
        all_goals
          cases fn (arr sp ds dd es) m2.st with
          | none => rfl
          | some p => rfl
@[simp] theorem look_slot : look (.slot i) m = match m.sl[i]? with
  | some (some d) => some d
  | _ => none := rfl
@[simp] theorem look_obj {n : Nat} : look (.val (.obj n)) m = match m.st[n]? with
  | some (.lst ds) => some (.lst ds)
  | some (.ins _ _) => some (.obj n)
  | none => none := rfl
@[simp] theorem look_int {j : Int} : look (.val (.int j)) m = some (.int j) := rfl
@[simp] theorem look_bl {j : Bool} : look (.val (.bl j)) m = some (.bl j) := rfl
@[simp] theorem look_str {j : Str} : look (.val (.str j)) m = some (.str j) := rfl
@[simp] theorem look_non : look (.val .non) m = some .non := rfl
@[simp] theorem look_tup {ds : List D} : look (.val (.tup ds)) m = some (.tup ds) := rfl
@[simp] theorem look_lst {ds : List D} : look (.val (.lst ds)) m = some (.lst ds) := rfl
@[simp] theorem look_dic {ds : List (D × D)} : look (.val (.dic ds)) m = some (.dic ds) := rfl
@[simp] theorem look_dit {ds : List (D × D)} : look (.val (.dit ds)) m = some (.dit ds) := rfl
@[simp] theorem look_scr {ns : List Int} : look (.val (.scr ns)) m = some (.scr ns) := rfl
@[simp] theorem looks_nil : looks [] m = some [] := rfl
@[simp] theorem looks_cons {x : Hd} {xs : List Hd} : looks (x :: xs) m = match look x m with
  | some d => match looks xs m with
    | some ds => some (d :: ds)
    | none => none
  | none => none := by
  unfold looks
  rw [List.mapM_cons]
  cases look x m with
  | none => rfl
  | some d => cases List.mapM (look · m) xs <;> rfl
@[simp] theorem looksV_nil : looksV [] = some [] := rfl
@[simp] theorem looksV_val {xs : List Hd} : looksV (.val d :: xs) = match looksV xs with
  | some ds => some (d :: ds)
  | none => none := by
  unfold looksV
  rw [List.mapM_cons]
  cases List.mapM (m := Option) (fun h => match h with
    | .val d => some d
    | .slot _ => none) xs <;> rfl
@[simp] theorem runFn_at {n : Nat} {ds : List D} {st : Sto} : runFn n s ds st = match s ⟨ds.map some ++ List.replicate (n - ds.length) none, st⟩ with
  | .ok fl m1 => match fl with
    | .rt d => some (d, m1.st)
    | .nx => some (.non, m1.st)
    | _ => none
  | .bad => none := by
  unfold runFn
  generalize s ⟨ds.map some ++ List.replicate (n - ds.length) none, st⟩ = r
  cases r with
  | bad => rfl
  | ok fl m1 => cases fl <;> rfl
end
/-- the hand's def, as it is printed -/
def dCell : Den D := eIf (bOf (eOp gLt (hVal (eVar 1)) (hVal (eFn gLen (aCons (hVal (eVar 0)) (aNil)))))) (eOp gIxA (hVal (eVar 0)) (hVal (eVar 1))) (eC (.int 0))
def dGreat : Den D := eIf (bOf (eOp gGe (hVal (eFn gAbs (aCons (hVal (eVar 2)) (aNil)))) (hVal (eOp gPow (hVal (eC (.int 10))) (hVal (eC (.int 18))))))) (eOp gMod (hVal (eFn gAbs (aCons (hVal (eVar 2)) (aNil)))) (hVal (eOp gMul (hVal (eOp gMul (hVal (eOp gPow (hVal (eC (.int 10))) (hVal (eC (.int 60))))) (hVal (eOp gPow (hVal (eC (.int 10))) (hVal (eC (.int 60))))))) (hVal (eOp gPow (hVal (eC (.int 10))) (hVal (eC (.int 60)))))))) (eC (.int 0))
def dHand : Den Fl := sSeq (sSet 2 dCell) (sSeq (sSet 3 dGreat) (sRet (eShare (eLst (aCons (hVal (eVar 3)) (aCons (hVal (eOp gMod (hVal (eOp gAdd (hVal (eOp gAdd (hVal (eOp gMul (hVal (eOp gMod (hVal (eVar 2)) (hVal (eC (.int 2305843009213693951))))) (hVal (eC (.int 1000033))))) (hVal (eOp gMul (hVal (eC (.int 6857))) (hVal (eVar 1)))))) (hVal (eC (.int 41))))) (hVal (eC (.int 2305843009213693921))))) (aCons (hVal (eC (.int 0))) (aNil))))))))
def dTake : Den Fl := sSeq (sIf (bOf (eOp gGt (hVal (eOp gIxA (hVal (eVar 0)) (hVal (eC (.int 0))))) (hVal (eC (.int 0))))) (sSeq (sSet 2 (eOp gMod (hVal (eOp gIxA (hVal (eVar 0)) (hVal (eC (.int 0))))) (hVal (eVar 1)))) (sSeq (sPutO (eVar 0) (hVal (eC (.int 0))) (eOp gDiv (hVal (eOp gIxA (hVal (eVar 0)) (hVal (eC (.int 0))))) (hVal (eVar 1)))) (sRet (eVar 2)))) (sNx)) (sSeq (sSet 3 (eOp gAdd (hVal (eOp gIxA (hVal (eVar 0)) (hVal (eC (.int 2))))) (hVal (eC (.int 1))))) (sSeq (sPutO (eVar 0) (hVal (eC (.int 2))) (eVar 3)) (sSeq (sSet 4 (eOp gAdd (hVal (eOp gIxA (hVal (eVar 0)) (hVal (eC (.int 1))))) (hVal (eOp gMul (hVal (eC (.int 15485867))) (hVal (eVar 3)))))) (sSeq (sSet 5 (eOp gAdd (hVal (eOp gAdd (hVal (eOp gMod (hVal (eOp gIxA (hVal (eVar 0)) (hVal (eC (.int 1))))) (hVal (eC (.int 7907))))) (hVal (eOp gMul (hVal (eC (.int 32452867))) (hVal (eVar 3)))))) (hVal (eC (.int 19))))) (sSeq (sSet 6 (eOp gMod (hVal (eOp gMul (hVal (eVar 4)) (hVal (eVar 5)))) (hVal (eC (.int 2305843009213693951))))) (sSeq (sSet 7 (eOp gAdd (hVal (eOp gAdd (hVal (eOp gMod (hVal (eVar 6)) (hVal (eC (.int 1000003))))) (hVal (eOp gMul (hVal (eC (.int 6700441))) (hVal (eVar 3)))))) (hVal (eC (.int 7))))) (sRet (eOp gMod (hVal (eOp gDiv (hVal (eOp gMod (hVal (eOp gMul (hVal (eOp gAdd (hVal (eVar 6)) (hVal (eC (.int 11))))) (hVal (eVar 7)))) (hVal (eC (.int 2305843009213693907))))) (hVal (eC (.int 64))))) (hVal (eVar 1))))))))))

theorem log2_le {i : Int} {k : Nat} (h1 : -(2 ^ k) < i) (h2 : i < 2 ^ k) : i.natAbs.log2 ≤ k := by
  by_cases z : i.natAbs = 0
  · rw [z, Nat.log2_zero]; exact Nat.zero_le _
  · refine Nat.le_of_lt ((Nat.log2_lt z).mpr ?_)
    have e : ((2 ^ k : Nat) : Int) = 2 ^ k := by norm_cast
    omega
theorem gMul_ok {i j : Int} (h1 : -(2 ^ 200) < i) (h2 : i < 2 ^ 200) (h3 : -(2 ^ 200) < j) (h4 : j < 2 ^ 200) : gMul (.int i) (.int j) = some (.int (i * j)) := by
  have a := log2_le h1 h2
  have b := log2_le h3 h4
  show (if i.natAbs.log2 + j.natAbs.log2 < 1000000 then some (D.int (i * j)) else none) = _
  rw [if_pos (by omega)]
theorem gMod_ok {i j : Int} (h : 0 < j) : gMod (.int i) (.int j) = some (.int (i % j)) := if_pos h
theorem gDiv_ok {i j : Int} (h : 0 < j) (h2 : j < 2 ^ 200) : gDiv (.int i) (.int j) = some (.int (i / j)) := by
  have b := log2_le (k := 200) (i := j) (by omega) h2
  show (if 0 < j ∧ j.natAbs.log2 < 9000 then some (D.int (i / j)) else none) = _
  rw [if_pos ⟨h, by omega⟩]
/-- a hand in the store -/
structure Hand (st : Sto) (n : Nat) (g c t : Int) : Prop where
  at_ : st[n]? = some (.lst [.int g, .int c, .int t])
  g0 : 0 ≤ g
  c0 : 0 ≤ c
  c1 : c < 2 ^ 64
  t0 : 0 ≤ t
theorem p64 : (2 : Int) ^ 64 = 18446744073709551616 := by decide
theorem set_same {α : Type} {l : List α} {n : Nat} {a b : α} (h : l[n]? = some a) : (l.set n b)[n]? = some b := by
  rw [List.getElem?_set_self (List.getElem?_eq_some_iff.mp h).1]
theorem setset {α : Type} {l : List α} {n : Nat} {a b : α} : (l.set n a).set n b = l.set n b := by simp
theorem take_ok {st : Sto} {n : Nat} {g c t many : Int} (h : Hand st n g c t) (ht : t < 2 ^ 64) (hm : 0 < many) (hm2 : many < 2 ^ 64) :
    ∃ r g' t', runFn 8 dTake [.obj n, .int many] st = some (.int r, st.set n (.lst [.int g', .int c, .int t'])) ∧ 0 ≤ r ∧ r < many ∧ t' ≤ t + 1 ∧ Hand (st.set n (.lst [.int g', .int c, .int t'])) n g' c t' := by
  obtain ⟨h0, h1, h2, h3, h4⟩ := h
  rw [p64] at h3 ht hm2
  have big : (2 : Int) ^ 64 < 2 ^ 200 := by decide
  rw [p64] at big
  by_cases hg : 0 < g
  · refine ⟨g % many, g / many, t, ?_, Int.emod_nonneg _ (by omega), Int.emod_lt_of_pos _ hm, by omega, ⟨set_same h0, Int.ediv_nonneg h1 (by omega), h2, by rw [p64]; exact h3, h4⟩⟩
    have d1 := gMod_ok (i := g) hm
    have d2 := gDiv_ok (i := g) hm (by omega)
    simp [dTake, h0, gGt, gI, gIxA, gIx, atI, hg, d1, d2, gSet, ixN]
  · have hg0 : g = 0 := by omega
    subst hg0
    have m0 : (0 : Int) ≤ c % 7907 := Int.emod_nonneg _ (by decide)
    have m1 : c % 7907 < 7907 := Int.emod_lt_of_pos _ (by decide)
    have d1 := gMul_ok (i := 15485867) (j := t + 1) (by omega) (by omega) (by omega) (by omega)
    have d2 := gMul_ok (i := 32452867) (j := t + 1) (by omega) (by omega) (by omega) (by omega)
    have d3 := gMul_ok (i := c + 15485867 * (t + 1)) (j := c % 7907 + 32452867 * (t + 1) + 19) (by omega) (by omega) (by omega) (by omega)
    have d4 := gMul_ok (i := 6700441) (j := t + 1) (by omega) (by omega) (by omega) (by omega)
    generalize hx : (c + 15485867 * (t + 1)) * (c % 7907 + 32452867 * (t + 1) + 19) = x at d3
    have m2 : (0 : Int) ≤ x % 2305843009213693951 := Int.emod_nonneg _ (by decide)
    have m3 : x % 2305843009213693951 < 2305843009213693951 := Int.emod_lt_of_pos _ (by decide)
    generalize hy : x % 2305843009213693951 = y at m2 m3
    have m4 : (0 : Int) ≤ y % 1000003 := Int.emod_nonneg _ (by decide)
    have m5 : y % 1000003 < 1000003 := Int.emod_lt_of_pos _ (by decide)
    have d5 := gMul_ok (i := y + 11) (j := y % 1000003 + 6700441 * (t + 1) + 7) (by omega) (by omega) (by omega) (by omega)
    generalize hz : (y + 11) * (y % 1000003 + 6700441 * (t + 1) + 7) = z at d5
    have d6 := gMod_ok (i := z % 2305843009213693907 / 64) hm
    have d7 := gDiv_ok (i := z % 2305843009213693907) (j := 64) (by decide) (by decide)
    refine ⟨z % 2305843009213693907 / 64 % many, 0, t + 1, ?_, Int.emod_nonneg _ (by omega), Int.emod_lt_of_pos _ hm, by omega, ⟨set_same h0, by omega, h2, by rw [p64]; exact h3, by omega⟩⟩
    have e6 := gMod_ok (i := c) (j := 7907) (by decide)
    have e7 := gMod_ok (i := x) (j := 2305843009213693951) (by decide)
    rw [hy] at e7
    have e8 := gMod_ok (i := y) (j := 1000003) (by decide)
    have e9 := gMod_ok (i := z) (j := 2305843009213693907) (by decide)
    have hl : ∀ b, (st.set n b)[n]? = some b := fun b => set_same h0
    simp [dTake, h0, gGt, gI, gIxA, gIx, atI, gSet, ixN, gAdd, d1, d2, d3, d4, d5, d6, d7, e6, e7, e8, e9, hl]
theorem hand_ok {st : Sto} {ns : List Int} {k : Int} (h0 : 0 ≤ k) (h1 : k < 100) :
    ∃ g c, runFn 4 dHand [.scr ns, .int k] st = some (.obj st.length, st ++ [.lst [.int g, .int c, .int 0]]) ∧ Hand (st ++ [.lst [.int g, .int c, .int 0]]) st.length g c 0 := by
  have big : (2 : Int) ^ 64 < 2 ^ 200 := by decide
  rw [p64] at big
  have cell : ∃ x : Int, ∀ m : MS, m.sl[0]? = some (some (.scr ns)) → m.sl[1]? = some (some (.int k)) →
      dCell m = .ok (.int x) m := by
    by_cases hk : k < (ns.length : Int)
    · refine ⟨ns[k.toNat]'(by omega), fun m e0 e1 => ?_⟩
      have e : atI ns k = some (ns[k.toNat]'(by omega)) := by
        have hj : ixN ns.length k = some k.toNat := by unfold ixN; rw [if_pos h0, if_pos hk]
        unfold atI
        rw [hj]
        exact List.getElem?_eq_getElem (by omega)
      simp [dCell, gLen, gLt, e0, e1, hk, gIxA, gIx, e]
    · refine ⟨0, fun m e0 e1 => ?_⟩
      simp [dCell, gLen, gLt, e0, e1, hk]
  obtain ⟨x, hx⟩ := cell
  have great : ∃ g : Int, 0 ≤ g ∧ ∀ m : MS, m.sl[2]? = some (some (.int x)) → dGreat m = .ok (.int g) m := by
    have p1 : gPow (.int 10) (.int 60) = some (.int (10 ^ 60)) := by rfl
    have p2 : gPow (.int 10) (.int 18) = some (.int (10 ^ 18)) := by rfl
    have p3 : gMul (.int (10 ^ 60)) (.int (10 ^ 60)) = some (.int (10 ^ 120)) := by rfl
    have p4 : gMul (.int (10 ^ 120)) (.int (10 ^ 60)) = some (.int (10 ^ 180)) := by rfl
    generalize hw : (if x < 0 then -x else x) = w
    have hw0 : 0 ≤ w := by rw [← hw]; split <;> omega
    have p5 := gMod_ok (i := w) (j := 10 ^ 180) (by decide)
    by_cases hg : (10 ^ 18 : Int) ≤ w
    · refine ⟨w % 10 ^ 180, Int.emod_nonneg _ (by decide), fun m e => ?_⟩
      simp only [dGreat, eIf_at, bOf_at, eOp_at, hVal_at, eVar_at, eC_at, eFn_at, aCons_at, aNil_at, look_int, looks_cons, looks_nil, gAbs, e, p1, p2, p3, p4, p5, gGe, gI, hw, hg, decide_true, if_true]
    · refine ⟨0, by omega, fun m e => ?_⟩
      simp only [dGreat, eIf_at, bOf_at, eOp_at, hVal_at, eVar_at, eC_at, eFn_at, aCons_at, aNil_at, look_int, looks_cons, looks_nil, gAbs, e, p1, p2, p3, p4, p5, gGe, gI, hw, hg, decide_false]
      rfl
  obtain ⟨g, hg0, hg⟩ := great
  have m2 : (0 : Int) ≤ x % 2305843009213693951 := Int.emod_nonneg _ (by decide)
  have m3 : x % 2305843009213693951 < 2305843009213693951 := Int.emod_lt_of_pos _ (by decide)
  have e1 := gMod_ok (i := x) (j := 2305843009213693951) (by decide)
  generalize x % 2305843009213693951 = y at m2 m3 e1
  have d1 := gMul_ok (i := y) (j := 1000033) (by omega) (by omega) (by omega) (by omega)
  have d2 := gMul_ok (i := 6857) (j := k) (by omega) (by omega) (by omega) (by omega)
  have e2 := gMod_ok (i := y * 1000033 + 6857 * k + 41) (j := 2305843009213693921) (by decide)
  have m4 : (0 : Int) ≤ (y * 1000033 + 6857 * k + 41) % 2305843009213693921 := Int.emod_nonneg _ (by decide)
  have m5 : (y * 1000033 + 6857 * k + 41) % 2305843009213693921 < 2305843009213693921 := Int.emod_lt_of_pos _ (by decide)
  generalize (y * 1000033 + 6857 * k + 41) % 2305843009213693921 = c at m4 m5 e2
  refine ⟨g, c, ?_, ⟨by simp, hg0, m4, by rw [p64]; omega, by decide⟩⟩
  have fit : fitL 3 = true := by decide
  simp [dHand, hx, hg, gAdd, e1, d1, d2, e2, fit]
end MI

namespace MI
open PySem PySem.Spec L2 PySem.Builtin.Str

/-! ### numbers -/
theorem dig_inj {a b : Nat} (h : Nat.toDigits 10 a = Nat.toDigits 10 b) : a = b := by
  rw [← Nat.ofDigitChars_ten_toDigits (n := a), ← Nat.ofDigitChars_ten_toDigits (n := b), h]
theorem nat_list (n : Nat) : (toString (Int.ofNat n)).toList = Nat.toDigits 10 n := by
  show (Nat.repr n).toList = _
  simp [Nat.repr]
theorem neg_list (n : Nat) : (toString (Int.negSucc n)).toList = '-' :: Nat.toDigits 10 (n + 1) := by
  show ("-" ++ Nat.repr (n + 1)).toList = _
  simp [Nat.repr]
def sgI (i : Int) : List Nat := (toString i).toList.map Char.toNat
theorem map_toNat_inj : ∀ {a b : List Char}, a.map Char.toNat = b.map Char.toNat → a = b
  | [], [], _ => rfl
  | [], _ :: _, h => by cases h
  | _ :: _, [], h => by cases h
  | x :: a, y :: b, h => by
    rw [List.map_cons, List.map_cons, List.cons.injEq] at h
    rw [Char.toNat_inj.mp h.1, map_toNat_inj h.2]
theorem no_minus {n : Nat} : '-' ∉ Nat.toDigits 10 n := by
  intro h
  have := PyProof.Rows.int_sign (Int.ofNat n) 
  have q := Nat.isDigit_of_mem_toDigits (b := 10) (n := n) (c := '-') (by decide) (by decide) h
  revert q; decide
theorem sgI_inj {i j : Int} (h : sgI i = sgI j) : i = j := by
  have h := map_toNat_inj h
  cases i with
  | ofNat a => cases j with
    | ofNat b => rw [nat_list, nat_list] at h; rw [dig_inj h]
    | negSucc b =>
      rw [nat_list, neg_list] at h
      exact absurd (by rw [h]; exact List.mem_cons_self ..) (no_minus (n := a))
  | negSucc a => cases j with
    | ofNat b =>
      rw [nat_list, neg_list] at h
      exact absurd (by rw [← h]; exact List.mem_cons_self ..) (no_minus (n := b))
    | negSucc b =>
      rw [neg_list, neg_list, List.cons.injEq] at h
      have := dig_inj h.2
      rw [show a = b by omega]
theorem sgI_mem {i : Int} {k : Nat} (h : k ∈ sgI i) : k = 45 ∨ (48 ≤ k ∧ k ≤ 57) := by
  obtain ⟨c, hc, e⟩ := List.mem_map.mp h
  rcases PyProof.Rows.int_sign i c hc with q | q
  · have := PyProof.Rows.digit_range q; omega
  · subst q; left; rw [← e]; decide
theorem sgI_ne {i : Int} : sgI i ≠ [] := by
  intro h
  have h : (toString i).toList = [] := by
    unfold sgI at h
    exact List.map_eq_nil_iff.mp h
  cases i with
  | ofNat a => rw [nat_list] at h; exact absurd h (by simp)
  | negSucc a => rw [neg_list] at h; cases h

/-! ### all -/
def lowS (x : Str) : Bool := x.cps.toList.all fun c => decide (97 ≤ c ∧ c ≤ 122)
mutual
def sg : PyData → List Nat
  | .none => [78, 111, 110, 101]
  | .bool true => [84, 114, 117, 101]
  | .bool false => [70, 97, 108, 115, 101]
  | .int i => sgI i
  | .str x => 39 :: (x.cps.toList ++ [39])
  | .list xs => 91 :: (sgs xs ++ [93])
  | .tuple xs => 40 :: (sgs xs ++ (if xs.length = 1 then [44, 41] else [41]))
  | .dict _ => []
def sgs : List PyData → List Nat
  | [] => []
  | x :: r => sg x ++ sgr r
def sgr : List PyData → List Nat
  | [] => []
  | x :: r => 44 :: 32 :: (sg x ++ sgr r)
end
mutual
/-- what is told plainly -/
def nic : PyData → Bool
  | .none | .bool _ => true
  | .int i => decide (i.natAbs.log2 < 1920)
  | .str x => lowS x
  | .list xs | .tuple xs => nics xs
  | .dict _ => false
def nics : List PyData → Bool
  | [] => true
  | x :: xs => nic x && nics xs
end
theorem app_list (a b : Str) : (a ++ b).cps.toList = a.cps.toList ++ b.cps.toList := by
  rw [PySem.Str.cps_append, Array.toList_append]
theorem reprChar_low {q c : Nat} (hq : q = 39) (h : 97 ≤ c ∧ c ≤ 122) : reprChar q c = [c] := by
  subst hq
  have : ∀ c : Fin 128, 97 ≤ c.val → c.val ≤ 122 → reprChar 39 c.val = [c.val] := by decide +kernel
  exact this ⟨c, by omega⟩ h.1 h.2
theorem low_fold (q : Nat) (hq : q = 39) : ∀ (l : List Nat) (acc : Array Nat), (l.all fun c => decide (97 ≤ c ∧ c ≤ 122)) = true → (l.foldl (fun out c => out ++ (reprChar q c).toArray) acc).toList = acc.toList ++ l
  | [], acc, _ => by simp
  | c :: l, acc, h => by
    rw [List.all_cons, Bool.and_eq_true] at h
    rw [List.foldl_cons, low_fold q hq l _ h.2, reprChar_low hq (of_decide_eq_true h.1)]
    simp
theorem low_repr {x : Str} (h : lowS x = true) : (reprText x).cps.toList = 39 :: (x.cps.toList ++ [39]) := by
  have hq : reprQuote x = 39 := by
    unfold reprQuote
    have : x.cps.contains 39 = false := by
      rw [Bool.eq_false_iff]
      intro z
      rw [Array.contains_iff_mem] at z
      have := List.all_eq_true.mp h 39 (Array.mem_toList_iff.mpr z)
      revert this; decide
    rw [this]
    rfl
  unfold reprText
  rw [hq]
  rw [← Array.foldl_toList, Array.toList_push, low_fold 39 rfl _ _ h]
  simp
theorem lt_of_zero {acc : Str} {ts : List Str} {k : Nat} (h : 0 < k) : ∀ t : Str, textFrom k (acc ++ ((if k > 0 then ", " else "" : String) : Str) ++ t) ts = textFrom k (acc ++ (", " : String) ++ t) ts := fun t => by rw [if_pos h]
/-- behind the first one -/
def after : List Str → List Nat
  | [] => []
  | t :: r => 44 :: 32 :: (t.cps.toList ++ after r)
theorem from_after : ∀ (ts : List Str) (k : Nat) (acc : Str), 0 < k → (textFrom k acc ts).cps.toList = acc.cps.toList ++ after ts
  | [], k, acc, _ => by show acc.cps.toList = _; rw [after, List.append_nil]
  | t :: r, k, acc, h => by
    show (textFrom (k + 1) (acc ++ ((if k > 0 then ", " else "" : String) : Str) ++ t) r).cps.toList = _
    rw [if_pos h, from_after r (k + 1) _ (Nat.succ_pos _), app_list, app_list, PyProof.Rows.signs_sep, after]
    simp
theorem join_after : ∀ (t : Str) (r : List Str), (Str.join ", " (t :: r)).cps.toList = t.cps.toList ++ after r
  | t, [] => by show t.cps.toList = _; rw [after, List.append_nil]
  | t, u :: r => by
    show (t ++ ((", " : String) : Str) ++ Str.join ", " (u :: r)).cps.toList = _
    rw [app_list, app_list, PyProof.Rows.signs_sep, join_after u r, after]
    simp
theorem listText_list : ∀ ts : List Str, (listText ts).cps.toList = 91 :: ((Str.join ", " ts).cps.toList ++ [93])
  | [] => by decide
  | t :: r => by
    show (textFrom 1 ((("[" : String) : Str) ++ ((if 0 > 0 then ", " else "" : String) : Str) ++ t) r ++ (("]" : String) : Str)).cps.toList = _
    rw [app_list, from_after r 1 _ (by decide), app_list, app_list, PyProof.Rows.signs_lbrack, PyProof.Rows.signs_rbrack, join_after]
    have : ((if 0 > 0 then ", " else "" : String) : Str).cps.toList = [] := by decide
    rw [this]
    simp
mutual
theorem sg_eq : ∀ {p : PyData}, nic p = true → p.shown.cps.toList = sg p
  | .none, _ => by rw [PyData.shown_none, sg]; decide
  | .bool true, _ => by rw [PyData.shown_bool, sg]; decide
  | .bool false, _ => by rw [PyData.shown_bool, sg]; decide
  | .int i, _ => by rw [PyData.shown_int, sg]; exact PyProof.Rows.signs_ofString _
  | .str x, h => by rw [nic] at h; rw [PyData.shown, sg]; exact low_repr h
  | .list xs, h => by
    rw [nic] at h
    rw [PyData.shown, sg, listText_list, sgs_eq h]
  | .tuple xs, h => by
    rw [nic] at h
    rw [PyData.shown, sg]
    unfold tupleText
    rw [app_list, app_list, PyProof.Rows.signs_lparen, sgs_eq h]
    have : (PyData.shownAll xs).length = xs.length := by rw [PyProof.Rows.shownAll_eq_map, List.length_map]
    rw [this]
    by_cases e : xs.length = 1
    · rw [e]; rfl
    · rw [if_neg e]
      have : (xs.length == 1) = false := by simpa using e
      rw [this]; rfl
  | .dict _, h => by rw [nic] at h; cases h
theorem sgs_eq : ∀ {xs : List PyData}, nics xs = true → (Str.join ", " (PyData.shownAll xs)).cps.toList = sgs xs
  | [], _ => by rw [PyData.shownAll_nil, sgs]; rfl
  | x :: r, h => by
    rw [nics, Bool.and_eq_true] at h
    rw [PyData.shownAll_cons, sgs, join_after, sg_eq h.1, sgr_eq h.2]
theorem sgr_eq : ∀ {r : List PyData}, nics r = true → after (PyData.shownAll r) = sgr r
  | [], _ => by rw [PyData.shownAll_nil, sgr, after]
  | y :: r, h => by
    rw [nics, Bool.and_eq_true] at h
    rw [PyData.shownAll_cons, sgr, after, sg_eq h.1, sgr_eq h.2]
end
/-! ### unlike ones are told unlike -/
/-- ends behind which nothing of a thing stands -/
def Tm (u : List Nat) : Prop := u = [] ∨ ∃ k r, u = k :: r ∧ (k = 44 ∨ k = 41 ∨ k = 93)
theorem split_tm : ∀ {a b u v : List Nat}, (∀ k ∈ a, k ≠ 44 ∧ k ≠ 41 ∧ k ≠ 93) → (∀ k ∈ b, k ≠ 44 ∧ k ≠ 41 ∧ k ≠ 93) → Tm u → Tm v → a ++ u = b ++ v → a = b ∧ u = v
  | [], [], u, v, _, _, _, _, h => ⟨rfl, h⟩
  | [], y :: b, u, v, _, hb, tu, _, h => by
    have h : u = y :: (b ++ v) := h
    rcases tu with z | ⟨k, r, z, hk⟩
    · rw [z] at h; cases h
    · rw [z] at h; cases h
      have := hb _ (List.mem_cons_self ..); omega
  | x :: a, [], u, v, ha, _, _, tv, h => by
    have h : x :: (a ++ u) = v := h
    rcases tv with z | ⟨k, r, z, hk⟩
    · rw [z] at h; cases h
    · rw [z] at h; cases h
      have := ha _ (List.mem_cons_self ..); omega
  | x :: a, y :: b, u, v, ha, hb, tu, tv, h => by
    rw [List.cons_append, List.cons_append, List.cons.injEq] at h
    obtain ⟨e1, e2⟩ := split_tm (fun k hk => ha k (List.mem_cons_of_mem _ hk)) (fun k hk => hb k (List.mem_cons_of_mem _ hk)) tu tv h.2
    rw [h.1, e1]; exact ⟨rfl, e2⟩
theorem split_q : ∀ {a b u v : List Nat}, (∀ k ∈ a, k ≠ 39) → (∀ k ∈ b, k ≠ 39) → a ++ 39 :: u = b ++ 39 :: v → a = b ∧ u = v
  | [], [], u, v, _, _, h => by cases h; exact ⟨rfl, rfl⟩
  | [], y :: b, u, v, _, hb, h => by cases h; exact absurd rfl (hb 39 (List.mem_cons_self ..))
  | x :: a, [], u, v, ha, _, h => by cases h; exact absurd rfl (ha 39 (List.mem_cons_self ..))
  | x :: a, y :: b, u, v, ha, hb, h => by
    rw [List.cons_append, List.cons_append, List.cons.injEq] at h
    obtain ⟨e1, e2⟩ := split_q (fun k hk => ha k (List.mem_cons_of_mem _ hk)) (fun k hk => hb k (List.mem_cons_of_mem _ hk)) h.2
    rw [h.1, e1]; exact ⟨rfl, e2⟩
/-- how it begins -/
def kin0 : PyData → Nat
  | .none => 0
  | .bool true => 1
  | .bool false => 2
  | .int _ => 3
  | .str _ => 4
  | .list _ => 5
  | .tuple _ => 6
  | .dict _ => 7
theorem sg_head : ∀ {p : PyData}, nic p = true → ∃ k r, sg p = k :: r ∧ ((kin0 p = 0 ∧ k = 78) ∨ (kin0 p = 1 ∧ k = 84) ∨ (kin0 p = 2 ∧ k = 70) ∨ (kin0 p = 3 ∧ (k = 45 ∨ (48 ≤ k ∧ k ≤ 57))) ∨ (kin0 p = 4 ∧ k = 39) ∨ (kin0 p = 5 ∧ k = 91) ∨ (kin0 p = 6 ∧ k = 40))
  | .none, _ => ⟨78, _, by rw [sg], by simp [kin0]⟩
  | .bool true, _ => ⟨84, _, by rw [sg], by simp [kin0]⟩
  | .bool false, _ => ⟨70, _, by rw [sg], by simp [kin0]⟩
  | .int i, _ => by
    rw [sg]
    cases e : sgI i with
    | nil => exact absurd e sgI_ne
    | cons k r =>
      refine ⟨k, r, rfl, ?_⟩
      have := sgI_mem (i := i) (k := k) (by rw [e]; exact List.mem_cons_self ..)
      simp [kin0]; omega
  | .str x, _ => ⟨39, _, by rw [sg], by simp [kin0]⟩
  | .list xs, _ => ⟨91, _, by rw [sg], by simp [kin0]⟩
  | .tuple xs, _ => ⟨40, _, by rw [sg], by simp [kin0]⟩
  | .dict _, h => by rw [nic] at h; cases h
theorem kin_of {p q : PyData} (hp : nic p = true) (hq : nic q = true) {u v : List Nat} (h : sg p ++ u = sg q ++ v) : kin0 p = kin0 q := by
  obtain ⟨k, r, e1, h1⟩ := sg_head hp
  obtain ⟨l, s, e2, h2⟩ := sg_head hq
  rw [e1, e2, List.cons_append, List.cons_append, List.cons.injEq] at h
  omega
theorem low_no {x : Str} (h : lowS x = true) : ∀ k ∈ x.cps.toList, k ≠ 39 := fun k hk => by
  have := of_decide_eq_true (List.all_eq_true.mp h k hk)
  omega
theorem tm_r {r : List PyData} {w : List Nat} (h : Tm w) : Tm (sgr r ++ w) := by
  cases r with
  | nil => rw [sgr]; exact h
  | cons y r => rw [sgr]; exact .inr ⟨44, _, rfl, .inl rfl⟩
/-- an end of a row -/
def Cl (w : List Nat) : Prop := ∃ r, w = 93 :: r ∨ w = 41 :: r ∨ w = 44 :: 41 :: r
theorem Cl.tm {w : List Nat} (h : Cl w) : Tm w := by
  obtain ⟨r, h | h | h⟩ := h
  · exact .inr ⟨_, _, h, by omega⟩
  · exact .inr ⟨_, _, h, by omega⟩
  · exact .inr ⟨_, _, h, by omega⟩
theorem cl_tup (n : Nat) (u : List Nat) : Cl ((if n = 1 then [44, 41] else [41]) ++ u) := by
  split
  · exact ⟨u, .inr (.inr rfl)⟩
  · exact ⟨u, .inr (.inl rfl)⟩
theorem sgs_not {xs : List PyData} (h : nics xs = true) {c : Nat} {w : List Nat} (hc : c = 93 ∨ c = 41) (hx : xs ≠ []) : ¬ ∃ u, sgs xs ++ w = c :: u := by
  rintro ⟨u, e⟩
  cases xs with
  | nil => exact hx rfl
  | cons x r =>
    rw [nics, Bool.and_eq_true] at h
    obtain ⟨k, s, e1, h1⟩ := sg_head h.1
    rw [sgs, e1, List.cons_append, List.cons_append, List.cons.injEq] at e
    omega
mutual
theorem sg_inj : ∀ {p q : PyData} {u v : List Nat}, nic p = true → nic q = true → Tm u → Tm v → sg p ++ u = sg q ++ v → p = q ∧ u = v
  | .none, q, u, v, hp, hq, tu, tv, h => by
    have k := kin_of hp hq h
    cases q with
    | none => exact ⟨rfl, List.append_cancel_left h⟩
    | bool b => cases b <;> simp [kin0] at k
    | _ => simp [kin0] at k
  | .bool true, q, u, v, hp, hq, tu, tv, h => by
    have k := kin_of hp hq h
    cases q with
    | bool b => cases b with
      | true => exact ⟨rfl, List.append_cancel_left h⟩
      | false => simp [kin0] at k
    | _ => simp [kin0] at k
  | .bool false, q, u, v, hp, hq, tu, tv, h => by
    have k := kin_of hp hq h
    cases q with
    | bool b => cases b with
      | false => exact ⟨rfl, List.append_cancel_left h⟩
      | true => simp [kin0] at k
    | _ => simp [kin0] at k
  | .int i, q, u, v, hp, hq, tu, tv, h => by
    have k := kin_of hp hq h
    cases q with
    | int j =>
      rw [sg, sg] at h
      have no : ∀ (i : Int), ∀ k ∈ sgI i, k ≠ 44 ∧ k ≠ 41 ∧ k ≠ 93 := fun i k hk => by have := sgI_mem hk; omega
      obtain ⟨e1, e2⟩ := split_tm (no i) (no j) tu tv h
      rw [sgI_inj e1]; exact ⟨rfl, e2⟩
    | bool b => cases b <;> simp [kin0] at k
    | _ => simp [kin0] at k
  | .str x, q, u, v, hp, hq, tu, tv, h => by
    have k := kin_of hp hq h
    cases q with
    | str y =>
      rw [nic] at hp hq
      rw [sg, sg, List.cons_append, List.cons_append, List.cons.injEq, List.append_assoc, List.append_assoc] at h
      obtain ⟨e1, e2⟩ := split_q (low_no hp) (low_no hq) h.2
      have : x = y := by
        cases x; cases y
        rw [PySem.Str.mk.injEq]
        exact Array.toList_inj.mp e1
      rw [this]; exact ⟨rfl, e2⟩
    | bool b => cases b <;> simp [kin0] at k
    | _ => simp [kin0] at k
  | .list xs, q, u, v, hp, hq, tu, tv, h => by
    have k := kin_of hp hq h
    cases q with
    | list ys =>
      rw [nic] at hp hq
      rw [sg, sg, List.cons_append, List.cons_append, List.cons.injEq, List.append_assoc, List.append_assoc] at h
      obtain ⟨e1, e2⟩ := sgs_inj (w := [93] ++ u) (w' := [93] ++ v) hp hq ⟨u, .inl rfl⟩ ⟨v, .inl rfl⟩ h.2
      rw [e1]; exact ⟨rfl, List.append_cancel_left e2⟩
    | bool b => cases b <;> simp [kin0] at k
    | _ => simp [kin0] at k
  | .tuple xs, q, u, v, hp, hq, tu, tv, h => by
    have k := kin_of hp hq h
    cases q with
    | tuple ys =>
      rw [nic] at hp hq
      rw [sg, sg, List.cons_append, List.cons_append, List.cons.injEq, List.append_assoc, List.append_assoc] at h
      obtain ⟨e1, e2⟩ := sgs_inj hp hq (cl_tup _ u) (cl_tup _ v) h.2
      rw [e1] at e2 ⊢
      exact ⟨rfl, List.append_cancel_left e2⟩
    | bool b => cases b <;> simp [kin0] at k
    | _ => simp [kin0] at k
  | .dict _, q, u, v, hp, hq, tu, tv, h => by rw [nic] at hp; cases hp
theorem sgs_inj : ∀ {xs ys : List PyData} {w w' : List Nat}, nics xs = true → nics ys = true → Cl w → Cl w' → sgs xs ++ w = sgs ys ++ w' → xs = ys ∧ w = w'
  | [], [], w, w', _, _, _, _, h => ⟨rfl, by rw [sgs] at h; exact h⟩
  | [], y :: ys, w, w', _, hy, c, c', h => by
    rw [sgs.eq_def [], List.nil_append] at h
    obtain ⟨r, z | z | z⟩ := c
    · exact absurd ⟨r, by rw [← h, z]⟩ (sgs_not hy (.inl rfl) (by simp) (w := w'))
    · exact absurd ⟨r, by rw [← h, z]⟩ (sgs_not hy (.inr rfl) (by simp) (w := w'))
    · rw [nics, Bool.and_eq_true] at hy
      obtain ⟨k, s, e1, h1⟩ := sg_head hy.1
      rw [z, sgs, e1, List.cons_append, List.cons_append, List.cons.injEq] at h
      omega
  | x :: xs, [], w, w', hx, _, c, c', h => by
    rw [sgs.eq_def [], List.nil_append] at h
    obtain ⟨r, z | z | z⟩ := c'
    · exact absurd ⟨r, by rw [h, z]⟩ (sgs_not hx (.inl rfl) (by simp) (w := w))
    · exact absurd ⟨r, by rw [h, z]⟩ (sgs_not hx (.inr rfl) (by simp) (w := w))
    · rw [nics, Bool.and_eq_true] at hx
      obtain ⟨k, s, e1, h1⟩ := sg_head hx.1
      rw [z, sgs, e1, List.cons_append, List.cons_append, List.cons.injEq] at h
      omega
  | x :: xs, y :: ys, w, w', hx, hy, c, c', h => by
    rw [nics, Bool.and_eq_true] at hx hy
    rw [sgs, sgs, List.append_assoc, List.append_assoc] at h
    obtain ⟨e1, e2⟩ := sg_inj hx.1 hy.1 (tm_r c.tm) (tm_r c'.tm) h
    obtain ⟨e3, e4⟩ := sgr_inj hx.2 hy.2 c c' e2
    rw [e1, e3]; exact ⟨rfl, e4⟩
theorem sgr_inj : ∀ {xs ys : List PyData} {w w' : List Nat}, nics xs = true → nics ys = true → Cl w → Cl w' → sgr xs ++ w = sgr ys ++ w' → xs = ys ∧ w = w'
  | [], [], w, w', _, _, _, _, h => ⟨rfl, by rw [sgr] at h; exact h⟩
  | [], y :: ys, w, w', _, hy, c, c', h => by
    rw [sgr.eq_def [], List.nil_append, sgr] at h
    obtain ⟨r, z | z | z⟩ := c <;> (rw [z] at h; simp at h)
  | x :: xs, [], w, w', hx, _, c, c', h => by
    rw [sgr.eq_def [], List.nil_append, sgr] at h
    obtain ⟨r, z | z | z⟩ := c' <;> (rw [z] at h; simp at h)
  | x :: xs, y :: ys, w, w', hx, hy, c, c', h => by
    rw [nics, Bool.and_eq_true] at hx hy
    rw [sgr, sgr, List.cons_append, List.cons_append, List.cons_append, List.cons_append, List.cons.injEq, List.cons.injEq, List.append_assoc, List.append_assoc] at h
    obtain ⟨e1, e2⟩ := sg_inj hx.1 hy.1 (tm_r c.tm) (tm_r c'.tm) h.2.2
    obtain ⟨e3, e4⟩ := sgr_inj hx.2 hy.2 c c' e2
    rw [e1, e3]; exact ⟨rfl, e4⟩
end
theorem shown_inj {p q : PyData} (hp : nic p = true) (hq : nic q = true) (h : p.shown = q.shown) : p = q := by
  refine (sg_inj (u := []) (v := []) hp hq (.inl rfl) (.inl rfl) ?_).1
  rw [List.append_nil, List.append_nil, ← sg_eq hp, ← sg_eq hq, h]
end MI

namespace MI
open PySem PySem.Spec L2

mutual
theorem nic_show : ∀ {p : PyData}, nic p = true → p.showable = true ∧ p.hasDict = false ∧ p.leavesShort 1921 = true
  | .none, _ => by simp [PyData.showable, PyData.hasDict, PyData.leavesShort]
  | .bool _, _ => by simp [PyData.showable, PyData.hasDict, PyData.leavesShort]
  | .int i, h => by
    rw [nic] at h
    refine ⟨by rw [PyData.showable]; exact h, by rw [PyData.hasDict], ?_⟩
    rw [PyData.leavesShort, decide_eq_true_eq, PyData.shown_int]
    exact PyProof.Rows.int_text_len_1921 (of_decide_eq_true h)
  | .str x, h => by
    rw [nic] at h
    refine ⟨by rw [PyData.showable], by rw [PyData.hasDict], ?_⟩
    rw [PyData.leavesShort, List.all_eq_true]
    intro c hc
    have := of_decide_eq_true (List.all_eq_true.mp h c hc)
    exact decide_eq_true (by omega)
  | .list xs, h => by
    rw [nic] at h
    obtain ⟨h1, h2, h3⟩ := nics_show h
    exact ⟨by rw [PyData.showable]; exact h1, by rw [PyData.hasDict]; exact h2, by rw [PyData.leavesShort]; exact h3⟩
  | .tuple xs, h => by
    rw [nic] at h
    obtain ⟨h1, h2, h3⟩ := nics_show h
    exact ⟨by rw [PyData.showable]; exact h1, by rw [PyData.hasDict]; exact h2, by rw [PyData.leavesShort]; exact h3⟩
  | .dict _, h => by rw [nic] at h; cases h
theorem nics_show : ∀ {ps : List PyData}, nics ps = true → PyData.showableAll ps = true ∧ PyData.hasDictAll ps = false ∧ PyData.leavesShortAll 1921 ps = true
  | [], _ => by simp [PyData.showableAll, PyData.hasDictAll, PyData.leavesShortAll]
  | p :: ps, h => by
    rw [nics, Bool.and_eq_true] at h
    obtain ⟨a1, a2, a3⟩ := nic_show h.1
    obtain ⟨b1, b2, b3⟩ := nics_show h.2
    exact ⟨by rw [PyData.showableAll, a1, b1]; rfl, by rw [PyData.hasDictAll, a2, b2]; rfl, by rw [PyData.leavesShortAll, a3, b3]; rfl⟩
end
mutual
theorem sg_small : ∀ {p : PyData}, nic p = true → ∀ k ∈ sg p, k < 128
  | .none, _, k, hk => by rw [sg] at hk; simp at hk; omega
  | .bool true, _, k, hk => by rw [sg] at hk; simp at hk; omega
  | .bool false, _, k, hk => by rw [sg] at hk; simp at hk; omega
  | .int i, _, k, hk => by rw [sg] at hk; have := sgI_mem hk; omega
  | .str x, h, k, hk => by
    rw [nic] at h
    rw [sg, List.mem_cons, List.mem_append, List.mem_singleton] at hk
    rcases hk with z | z | z
    · omega
    · have := of_decide_eq_true (List.all_eq_true.mp h k z); omega
    · omega
  | .list xs, h, k, hk => by
    rw [nic] at h
    rw [sg, List.mem_cons, List.mem_append, List.mem_singleton] at hk
    rcases hk with z | z | z
    · omega
    · exact sgs_small h k z
    · omega
  | .tuple xs, h, k, hk => by
    rw [nic] at h
    rw [sg, List.mem_cons, List.mem_append] at hk
    rcases hk with z | z | z
    · omega
    · exact sgs_small h k z
    · split at z
      · simp at z; omega
      · simp at z; omega
  | .dict _, h, _, _ => by rw [nic] at h; cases h
theorem sgs_small : ∀ {ps : List PyData}, nics ps = true → ∀ k ∈ sgs ps, k < 128
  | [], _, k, hk => by rw [sgs] at hk; cases hk
  | p :: ps, h, k, hk => by
    rw [nics, Bool.and_eq_true] at h
    rw [sgs, List.mem_append] at hk
    rcases hk with z | z
    · exact sg_small h.1 k z
    · exact sgr_small h.2 k z
theorem sgr_small : ∀ {ps : List PyData}, nics ps = true → ∀ k ∈ sgr ps, k < 128
  | [], _, k, hk => by rw [sgr] at hk; cases hk
  | p :: ps, h, k, hk => by
    rw [nics, Bool.and_eq_true] at h
    rw [sgr, List.mem_cons, List.mem_cons, List.mem_append] at hk
    rcases hk with z | z | z | z
    · omega
    · omega
    · exact sg_small h.1 k z
    · exact sgr_small h.2 k z
end
/-- it may be told -/
def rok (d : D) : Bool := match toPy d with
  | some p => nic p && (decide (p.depth ≤ 16) && decide (p.bulk ≤ 8000))
  | none => false
def sh (d : D) : Str := match toPy d with
  | some p => p.shown
  | none => Str.empty
theorem rok_of {d : D} (h : rok d = true) : ∃ p, toPy d = some p ∧ nic p = true ∧ p.depth ≤ 16 ∧ p.bulk ≤ 8000 ∧ sh d = p.shown := by
  unfold rok at h
  split at h
  · next p e =>
    simp only [Bool.and_eq_true, decide_eq_true_eq] at h
    exact ⟨p, e, h.1, h.2.1, h.2.2, by unfold sh; rw [e]⟩
  · cases h
theorem gRepr_ok {d : D} (h : rok d = true) : gRepr [d] = some (.str (sh d)) := by
  obtain ⟨p, e, n, h1, h2, hs⟩ := rok_of h
  obtain ⟨a1, a2, a3⟩ := nic_show n
  have hl := PyData.shown_le_bulk 1921 (by decide) p a3
  have : p.shown.length ≤ sizeLine := by unfold sizeLine; omega
  rw [hs]
  unfold gRepr
  simp only [e, a1, a2]
  rw [decide_eq_true h1, decide_eq_true this]
  rfl
theorem okE_sh {d : D} (h : rok d = true) : okE (.str (sh d)) = some (.str (sh d)) := by
  obtain ⟨p, e, n, h1, h2, hs⟩ := rok_of h
  have : SeqAt.shaped (.str (sh d)) = true := by
    unfold SeqAt.shaped
    have : PyData.canLay0 (.str (sh d)) = true := by
      rw [PyData.canLay0, PyData.strOk, ← Array.all_toList, List.all_eq_true]
      intro k hk
      rw [hs, sg_eq n] at hk
      have := sg_small n k hk
      exact decide_eq_true (by omega)
    rw [this, PyData.depth]
    rfl
  unfold okE
  simp only [toPy]
  rw [if_pos this]
mutual
theorem toPy_inj : ∀ {a b : D} {p : PyData}, toPy a = some p → toPy b = some p → a = b
  | .non, b, p, h1, h2 => by cases h1; cases b <;> simp [toPy] at h2 <;> first | rfl | skip
  | .bl x, b, p, h1, h2 => by cases h1; cases b <;> simp [toPy] at h2 <;> first | (rw [h2]) | skip
  | .int x, b, p, h1, h2 => by cases h1; cases b <;> simp [toPy] at h2 <;> first | (rw [h2]) | skip
  | .str x, b, p, h1, h2 => by cases h1; cases b <;> simp [toPy] at h2 <;> first | (rw [h2]) | skip
  | .tup xs, b, p, h1, h2 => by
    rw [toPy, Option.map_eq_some_iff] at h1
    obtain ⟨ps, e1, rfl⟩ := h1
    cases b <;> simp [toPy] at h2
    rw [toPys_inj e1 h2]
  | .lst xs, b, p, h1, h2 => by
    rw [toPy, Option.map_eq_some_iff] at h1
    obtain ⟨ps, e1, rfl⟩ := h1
    cases b <;> simp [toPy] at h2
    rw [toPys_inj e1 h2]
  | .dic _, b, p, h1, h2 => by simp [toPy] at h1
  | .dit _, b, p, h1, h2 => by simp [toPy] at h1
  | .set _, b, p, h1, h2 => by simp [toPy] at h1
  | .obj _, b, p, h1, h2 => by simp [toPy] at h1
  | .scr _, b, p, h1, h2 => by simp [toPy] at h1
theorem toPys_inj : ∀ {a b : List D} {p : List PyData}, toPys a = some p → toPys b = some p → a = b
  | [], b, p, h1, h2 => by
    cases h1
    cases b with
    | nil => rfl
    | cons y b => obtain ⟨_, _, _, _, z⟩ := toPys_cons h2; cases z
  | x :: a, b, p, h1, h2 => by
    obtain ⟨p1, ps1, e1, e2, rfl⟩ := toPys_cons h1
    cases b with
    | nil => cases h2
    | cons y b =>
      obtain ⟨p2, ps2, e3, e4, z⟩ := toPys_cons h2
      cases z
      rw [toPy_inj e1 e3, toPys_inj e2 e4]
end
theorem sh_inj {a b : D} (ha : rok a = true) (hb : rok b = true) (h : sh a = sh b) : a = b := by
  obtain ⟨p, e, n, _, _, hs⟩ := rok_of ha
  obtain ⟨q, f, m, _, _, ht⟩ := rok_of hb
  rw [hs, ht] at h
  have := shown_inj n m h
  subst this
  exact toPy_inj e f
theorem eqB_sh {a b : D} (ha : rok a = true) (hb : rok b = true) : ∃ c, eqB (.str (sh a)) (.str (sh b)) = some c ∧ (c = true ↔ a = b) := by
  unfold eqB
  rw [okE_sh ha, okE_sh hb]
  refine ⟨_, rfl, ?_⟩
  rw [PyData.eqv, beq_iff_eq]
  exact ⟨sh_inj ha hb, fun h => by rw [h]⟩
theorem gNe_same {a : D} (ha : rok a = true) : gNe (.str (sh a)) (.str (sh a)) = some (.bl false) := by
  obtain ⟨c, e, h⟩ := eqB_sh ha ha
  unfold gNe
  rw [e, h.mpr rfl]; rfl
theorem gEq_same {a : D} (ha : rok a = true) : gEq (.str (sh a)) (.str (sh a)) = some (.bl true) := by
  obtain ⟨c, e, h⟩ := eqB_sh ha ha
  unfold gEq
  rw [e, h.mpr rfl]; rfl
end MI

namespace MI
open PySem PySem.Spec L2 PyProof.Rows

/-! ### isinstance -/
inductive Ty where
  | non | bl | int | str | tup | lst | dic
  deriving DecidableEq
def Ty.nm : Ty → String
  | .non => "NoneType" | .bl => "bool" | .int => "int" | .str => "str" | .tup => "tuple" | .lst => "list" | .dic => "dict"
def tyD : D → Option Ty
  | .non => some .non | .bl _ => some .bl | .int _ => some .int | .str _ => some .str | .tup _ => some .tup | .lst _ => some .lst | .dic _ => some .dic
  | _ => none
def isTy : Ty → Ty → Bool
  | .bl, .int => true
  | .non, .non => true | .bl, .bl => true | .int, .int => true | .str, .str => true | .tup, .tup => true | .lst, .lst => true | .dic, .dic => true
  | _, _ => false
def gIsi (T : Ty) (d : D) : Option D := match tyD d with
  | some t => some (.bl (isTy t T))
  | none => none
theorem bt_isi : bootBuiltins "isinstance" = some (.builtin "isinstance") := by decide +kernel
theorem bt_bool : bootBuiltins "bool" = some (.type "bool") := by decide +kernel
theorem bt_str : bootBuiltins "str" = some (.type "str") := by decide +kernel
theorem kit_is (t T : Ty) (h : T ≠ .non) : kitB t.nm T.nm = some (isTy t T) := by
  cases T with
  | non => exact absurd rfl h
  | bl => cases t <;> decide +kernel
  | int => cases t <;> decide +kernel
  | str => cases t <;> decide +kernel
  | tup => cases t <;> decide +kernel
  | lst => cases t <;> decide +kernel
  | dic => cases t <;> decide +kernel
section
variable {X : Cx} {cls : Nat → Addr} {own : Nat → Bool} {K : KX} {a : Expr} {fa : Den Hd} {x : Str} {p p2 pos : Pos} {T : Ty}
theorem pe_blt {t : String} (hg : Gl X x) (hm : X.mg x = none) (hv : bootBuiltins x = some (.type t)) (hn : x ≠ "__name__" := by decide) (hd : (x == ("__debug__" : Str)) = false := by decide) : PE X (.Name x pos) (tC (.ty t)) :=
  ⟨fun pins s σ H Q I h => ld_blt I hg hm hv ⟨.ty t, H, I, rfl, h⟩ hn hd⟩
theorem ty_of {H Z : Hp} {al : List Addr} {v : V} {d : D} {t : Ty} (s : Same Z H) (h : CR K H Z al v d) (e : tyD d = some t) : TyX K.K H v (.type t.nm) := by
  cases d with
  | non => cases e; cases h.non; exact .base .non
  | bl c => cases e; cases h.bl; exact .base (.bl _)
  | int c => cases e; cases h.int; exact .base (.int _)
  | str c => cases e; cases h.str; exact .base (.str _)
  | tup ds =>
    cases e
    obtain ⟨p, xs, rfl, h1, c1⟩ := h.tup
    rcases Same.tupN s h1 with ⟨o, _, h1⟩ | ⟨o, its, n, _, lk, hc, _⟩
    · exact .fTuple h1
    · exact .kTuple lk hc
  | lst ds =>
    cases e
    obtain ⟨p, xs, rfl, h1, c1⟩ := h
    exact .base (.lst h1)
  | dic ds =>
    cases e
    obtain ⟨p, kvs, rfl, h1, _⟩ := h
    rcases h1 with h1 | ⟨o, h1⟩
    · exact .base (.dK h1)
    · exact .fDict h1
  | _ => cases e
theorem se_isi (hT : T ≠ .non) (hg1 : Gl X "isinstance") (hm1 : X.mg "isinstance" = none) (hg2 : Gl X x) (hm2 : X.mg x = none) (hv : bootBuiltins x = some (.type T.nm)) (ha : SH cls own X a fa)
    (hn : x ≠ "__name__" := by decide) (hd : (x == ("__debug__" : Str)) = false := by decide)
    (s1 : starEach [a, .Name x p2] X.env = (false, eval a X.env) :: starEach [.Name x p2] X.env := by rfl) (s2 : starEach [.Name x p2] X.env = (false, eval (.Name x p2) X.env) :: starEach [] X.env := by rfl)
    (q1 : (backTo pos (starEach [.Name x p2] X.env)).any (·.1) = false := by rfl) :
    SE cls own X (.Call (.Name "isinstance" p) [a, .Name x p2] [] pos) (eUn (gIsi T) fa) := by
  refine pe_imp (pe_callB call_isi hg1 hm1 bt_isi (pa_cons ha (pa_cons (pe_blt hg2 hm2 hv hn hd) pa_nil s2) s1) (by decide) (by decide) s1 q1) fun σ H Q q => ?_
  obtain ⟨G, al, m, d, m', r, e, k⟩ := q
  obtain ⟨h1, y, e1, l1, gz⟩ := eUn_ok e
  refine ⟨G, al, m, h1, m', r, e1, fun G1 al1 v H1 ev1 r1 hv1 => ?_⟩
  have cr := look_cr r1 hv1 l1
  unfold gIsi at gz
  split at gz
  · next t et =>
    cases gz
    exact ⟨v, .ty T.nm, .type t.nm, .type T.nm, isTy t T, rfl, .ty _, ty_of r1.zh cr et, kit_ty (kit_is t T hT), k G1 al1 _ H1 ev1 r1 (.bl _)⟩
  · cases gz
end

/-! ### t[::-1] -/
theorem fm_map {α β : Type} {f : α → Option β} {g : α → β} : ∀ {l : List α}, (∀ k ∈ l, f k = some (g k)) → l.filterMap f = l.map g
  | [], _ => rfl
  | k :: l, h => by rw [List.filterMap_cons, h k (List.mem_cons_self ..), List.map_cons, fm_map fun x hx => h x (List.mem_cons_of_mem _ hx)]
theorem rev_pick (xs : Array Value) : ((List.range xs.size).filterMap fun (k : Nat) => xs[(((xs.size : Int) - 1) + (k : Int) * (-1)).toNat]?) = xs.toList.reverse := by
  apply List.ext_getElem?
  intro j
  have e : ((List.range xs.size).filterMap fun (k : Nat) => xs[(((xs.size : Int) - 1) + (k : Int) * (-1)).toNat]?) = (List.range xs.size).map fun k => xs.getD (xs.size - 1 - k) Value.none := by
    refine fm_map fun k hk => ?_
    have hk := List.mem_range.mp hk
    have : (((xs.size : Int) - 1) + (k : Int) * (-1)).toNat = xs.size - 1 - k := by omega
    rw [this, Array.getElem?_eq_getElem (by omega), Array.getD_eq_getD_getElem?, Array.getElem?_eq_getElem (by omega)]
    rfl
  rw [e, List.getElem?_map]
  by_cases hj : j < xs.size
  · rw [List.getElem?_range hj, Option.map_some, List.getElem?_reverse (by simpa using hj), Array.length_toList, Array.getElem?_toList, Array.getD_eq_getD_getElem?, Array.getElem?_eq_getElem (by omega)]
    rfl
  · rw [List.getElem?_eq_none (by simpa using hj), List.getElem?_eq_none (by simpa using hj)]
    rfl
section
variable {prog : Program} {w : World} {A : Around} {E : Value → Shared → Prop} {s : Shared}
theorem sliceApplied_rev {sl : Addr} {u : Tok} {n : Nat} {Q : Int × Int × Nat → Shared → Prop} (hs : s.heap.IsSliceOf sl .none .none (.int (-1) u)) (h : Q ((n : Int) - 1, -1, n) s) :
    wpAny (model prog w) A (Builtin.Slice.sliceApplied (.ref sl) (pure (n : Int))) Q E s := by
  obtain ⟨os, hos, hcs, hds⟩ := id hs
  unfold Builtin.Slice.sliceApplied Builtin.Slice.sliceFields
  refine wpAny_bind (wpAny_bind (wpAny_field hos hds (x := .none) rfl (wpAny_bind (wpAny_field hos hds (x := .none) rfl (wpAny_bind (wpAny_field hos hds (x := .int (-1) u) rfl (wpAny_pure ?_)))))))
  refine wpAny_bind (HT.slicePart_ (.int (-1) u) ?_)
  show wpAny _ _ (if ((-1 : Int) == 0) = true then _ else _) _ _ s
  rw [if_neg (by decide)]
  refine wpAny_bind (HT.slicePart_ .none (wpAny_bind (HT.slicePart_ .none (wpAny_bind (wpAny_pure ?_)))))
  have ep : Builtin.Slice.slicePlaces ((n : Int) - 1) (-1) (-1) = n := by
    unfold Builtin.Slice.slicePlaces
    have h1 : ¬ ((-1 : Int) > 0) := by omega
    simp only [h1, if_false, Int.neg_neg, Int.ediv_one]
    split <;> omega
  have ea : Builtin.Slice.sliceAdjust none none (-1) (n : Int) = ((n : Int) - 1, -1) := rfl
  show wpAny _ _ (match Builtin.Slice.sliceAdjust none none (-1) (n : Int) with | (lo, hi) => pure (lo, (-1 : Int), Builtin.Slice.slicePlaces lo hi (-1))) _ _ s
  rw [ea]
  show wpAny _ _ (pure ((n : Int) - 1, (-1 : Int), Builtin.Slice.slicePlaces ((n : Int) - 1) (-1) (-1))) _ _ s
  rw [ep]
  exact wpAny_pure h
theorem getItem_tuple_rev {t sl : Addr} {items : Array Value} {u : Tok} {Q : Value → Shared → Prop} (ht : IsTup s.heap t items) (hs : s.heap.IsSliceOf sl .none .none (.int (-1) u))
    (h : Q (.ref s.heap.objs.size) { s with heap := s.heap.push { cls := .type "tuple", data := .seq items.toList.reverse.toArray } }) (hsz : items.size ≤ sizeLine) : wpAny (model prog w) A (getItem (.ref t) (.ref sl)) Q E s := by
  have htake : sizeOk (.seq items.toList.reverse.toArray) := by
    show items.toList.reverse.toArray.size ≤ sizeLine
    rw [List.size_toArray, List.length_reverse, Array.length_toList]
    exact hsz
  obtain ⟨os, hos, hcs, hds⟩ := id hs
  have hTs : s.TypeIs (.ref sl) "slice" := ⟨os, hos, hcs⟩
  unfold getItem
  try with_reducible refine wpAny_holding ?_
  first | refine wpAny_bind (wpAny_pure ?_) | skip
  refine wpAny_bind (wpAny_sequenceKey ht.typeIs (by decide) ?_)
  refine wpAny_bind (wpAny_callSpecial?_slot (name := Str.ofString "__getitem__") ht.typeIs PyProof.Rows.slot_tuple_getitem
    (wpAny_call_entry PyProof.Rows.slot_tuple_getitem ht.typeIs entry_tuple_getitem ?_ (args_tuple_getitem _ _)))
  show wpAny _ _ (Builtin.Tuple.tupleItemsOf (.ref t) >>= _) _ _ s
  refine wpAny_bind (tupleItemsOf_ ht ?_)
  refine wpAny_bind (wpAny_typeOf hTs ?_)
  rw [if_pos (by decide)]
  refine wpAny_bind (sliceApplied_rev hs ?_)
  have hno : ¬ ((((items.size : Int) - 1) == 0 && (-1 : Int) == 1 && items.size == items.size) = true) := by
    intro q
    rw [Bool.and_eq_true, Bool.and_eq_true] at q
    exact absurd q.1.2 (by decide)
  show wpAny _ _ (if ((((items.size : Int) - 1) == 0 && (-1 : Int) == 1 && items.size == items.size)) = true then _ else _) _ _ s
  rw [if_neg hno, rev_pick]
  first
    | exact wpAny_bind (m := Builtin.Tuple.tupleExact _) (wpAny_newObj_type (wpAny_pure ⟨_, rfl, wpAny_pure h⟩) htake)
    | exact wpAny_bind (m := Builtin.Tuple.tupleExact _) (wpAny_newObj_type (wpAny_bind (wpAny_pure (wpAny_pure ⟨_, rfl, wpAny_pure h⟩))) htake)
    | exact wpAny_bind (wpAny_bind (m := Builtin.Tuple.tupleExact _) (wpAny_newObj_type (wpAny_pure (wpAny_pure ⟨_, rfl, wpAny_pure h⟩)) htake))
    | exact wpAny_bind (wpAny_bind (m := Builtin.Tuple.tupleExact _) (wpAny_newObj_type (wpAny_pure ⟨_, rfl, wpAny_pure h⟩) htake))
end
section
variable {X : Cx} {cls : Nat → Addr} {own : Nat → Bool} {K : KX} {e st : Expr} {te : TE} {fa : Den Hd} {p p2 pos : Pos}
def rRevT (K : PySem.W.Frag) (te : TE) : TE := fun σ H Q => te σ H fun x H1 => ∃ a xs, x = .ref a ∧ SqT K H1 a xs ∧ ∀ p ob, H1 p = none → ob.dict = none → Q (.ref p) (upd H1 p (.frz ob (.tup xs.reverse)))
theorem vals_rev : ∀ {xs : List V} {us : List Value}, Vals xs us → Vals xs.reverse us.reverse
  | _, _, .nil => .nil
  | _, _, .cons r t => by
    rw [List.reverse_cons, List.reverse_cons]
    exact (vals_rev t).append (.cons r .nil)
theorem pe_revT (he : PE X e te) (hst : PE X st (tC (.int (-1)))) (ht : ∀ o r, letTemporaryGo e o r = pure () := by intro _ _; rfl) : PE X (.Subscript e (.Slice none none (some st) p2) pos) (rRevT X.K te) := by
  refine ⟨fun pins s σ H Q I h => ?_⟩
  refine wpAny_Subscript_Slice_step (T := "tuple") PyProof.Rows.slot_tuple_getitem.lookup (thn (he.run pins s σ H _ I h) fun v s1 ⟨x, H1, I1, r1, a, xs, ex, hx, q1⟩ => ?_) ht
  subst ex
  cases r1
  refine wpAny_Slice ?_
  rw [evalPart_none, evalPart_some]
  refine wpAny_pure (wpAny_pure (thn (hst.run pins s1 σ H1 (fun y H2 => y = .int (-1) ∧ H2 = H1) I1 ⟨rfl, rfl⟩) fun v2 s2 ⟨y, H2, I2, r2, ey, eh⟩ => ?_))
  subst ey; subst eh
  obtain ⟨tk, rfl⟩ := r2
  have I3 : Inv X pins σ H2 { s2 with heap := s2.heap.push { cls := .type "slice", data := .fields #[.none, .none, .int (-1) tk] } } := I2.kept (t' := s2.toks) fun b ob q => Heap.get?_push_of_some _ q
  obtain ⟨its, r, hti, hz⟩ := I3.tuple hx
  refine ⟨hti.typeIs, getItem_tuple_rev hti (Heap.IsSliceOf.new ..) ?_ (by rw [List.size_toArray, ← r.length]; exact hz)⟩
  rw [List.toList_toArray]
  exact ⟨.ref _, _, I3.laid (t' := s2.toks) (o := .frz (newT its.reverse) (.tup xs.reverse)) (fun b ob q => Heap.get?_push_of_some _ q) (Nat.le_refl _)
    (newT_ok (by rw [List.length_reverse]; exact hz) (vals_rev r) (Heap.get?_push_size _ rfl)), rfl, q1 _ _ (I3.hok.fresh (Nat.le_refl _)) rfl⟩
def gRev : D → Option D
  | .tup ds => some (.tup ds.reverse)
  | _ => none
theorem dvs_rev {Z : Hp} {al : List Addr} : ∀ {xs : List V} {ds : List D}, DVs K Z al xs ds → DVs K Z al xs.reverse ds.reverse
  | _, _, .nil => .nil
  | _, _, .cons h r => by
    rw [List.reverse_cons, List.reverse_cons]
    exact (dvs_rev r).append (.cons h .nil)
theorem pe_m1 {j q1 q2} : PE X (.UnaryOp .USub (.Constant (.int 1) j q1) q2) (tC (.int (-1))) := by
  have h := pe_un (pos := q2) un_neg (pe_int (X := X) (i := 1) (j := j) (pos := q1))
  exact pe_imp h fun σ H Q q => ⟨1, rfl, q⟩
theorem se_rev {j q1 q2} (ha : SH cls own X e fa) (ht : ∀ o r, letTemporaryGo e o r = pure () := by intro _ _; rfl) : SE cls own X (.Subscript e (.Slice none none (some (.UnaryOp .USub (.Constant (.int 1) j q1) q2)) p2) pos) (eUn gRev fa) := by
  refine pe_imp (pe_revT ha pe_m1 ht) fun σ H Q q => ?_
  obtain ⟨G, al, m, d, m', r, e, k⟩ := q
  obtain ⟨h1, y, e1, l1, gz⟩ := eUn_ok e
  refine ⟨G, al, m, h1, m', r, e1, fun G1 al1 v H1 ev1 r1 hv1 => ?_⟩
  have cr := look_cr r1 hv1 l1
  have kk : Post X.kx cls own G1 al1 m' σ d Q := fun G4 al4 v4 H4 ev4 r4 dv4 => k G4 al4 v4 H4 (ev1.trans ev4) r4 dv4
  unfold gRev at gz
  split at gz
  · next ds =>
    cases gz
    obtain ⟨p, xs, rfl, h1, c1⟩ := cr.tup
    exact ⟨p, xs, rfl, Same.tupS r1.zh h1, fun q ob hq hdb => kk.tup r1 (dvs_rev c1) hq hdb⟩
  · cases gz
end
end MI

namespace MI
open PySem PySem.Spec L2

/-! ### loops -/
theorem loop_inv {tg : Tg} {body : Den Fl} {I : Nat → MS → Prop} : ∀ {ds : List D} (k : Nat), (∀ d ∈ ds, ∀ j m, j < k + ds.length → I j m → ∃ sl m2, tgSet tg d m.sl = some sl ∧ (body ⟨sl, m.st⟩ = .ok .nx m2 ∨ body ⟨sl, m.st⟩ = .ok .ct m2) ∧ I (j + 1) m2) → ∀ m, I k m → ∃ m2, loopD tg body ds m = .ok .nx m2 ∧ I (k + ds.length) m2
  | [], k, _, m, i => ⟨m, rfl, i⟩
  | d :: ds, k, h, m, i => by
    have hl : k + (d :: ds).length = k + 1 + ds.length := by rw [List.length_cons]; omega
    obtain ⟨sl, m2, e1, e2, i2⟩ := h d (List.mem_cons_self ..) k m (by omega) i
    obtain ⟨m3, e3, i3⟩ := loop_inv (ds := ds) (k + 1) (fun x hx j m hj => h x (List.mem_cons_of_mem _ hx) j m (by omega)) m2 i2
    refine ⟨m3, ?_, by rw [hl]; exact i3⟩
    rw [loopD]
    rcases e2 with e2 | e2
    · simp only [e1, e2]; exact e3
    · simp only [e1, e2]; exact e3
/-! ### comprehensions -/
theorem lc_inv {vs : List Nat} {tg : Tg} {tt : Den Bool} {te : Den D} {w : List (Option D)} {P : Nat → Sto → Prop} {Q : D → D → Prop} : ∀ {ds : List D} (k : Nat),
    (∀ d ∈ ds, ∀ j st, j < k + ds.length → P j st → ∃ S y st', tgSet tg d w = some S ∧ tt ⟨S, st⟩ = .ok true ⟨S, st⟩ ∧ te ⟨S, st⟩ = .ok y ⟨S, st'⟩ ∧ wipeM S vs = w ∧ P (j + 1) st' ∧ Q d y) →
    ∀ sl st, wipeM sl vs = w → P k st → ∃ ys last st', lcLoop vs tg tt te ds ⟨sl, st⟩ = .ok ys ⟨last, st'⟩ ∧ wipeM last vs = w ∧ P (k + ds.length) st' ∧ ys.length = ds.length ∧ ∀ (i : Nat) (d y : D), ds[i]? = some d → ys[i]? = some y → Q d y
  | [], k, _, sl, st, hw, p => ⟨[], sl, st, rfl, hw, p, rfl, fun i d y e _ => by simp at e⟩
  | d :: ds, k, h, sl, st, hw, p => by
    obtain ⟨S, y, st1, e1, e2, e3, e4, p1, q1⟩ := h d (List.mem_cons_self ..) k st (by rw [List.length_cons]; omega) p
    obtain ⟨ys, last, st2, e5, e6, p2, l2, q2⟩ := lc_inv (ds := ds) (k + 1) (fun x hx j st hj => h x (List.mem_cons_of_mem _ hx) j st (by rw [List.length_cons]; omega)) S st1 e4 p1
    refine ⟨y :: ys, last, st2, ?_, e6, by rw [List.length_cons, Nat.add_comm ds.length 1, ← Nat.add_assoc]; exact p2, by rw [List.length_cons, List.length_cons, l2], fun i d' y' f1 f2 => ?_⟩
    · rw [lcLoop]
      simp only [hw, e1, e2, e3, e5]
    · cases i with
      | zero => simp at f1 f2; subst f1; subst f2; exact q1
      | succ i => exact q2 i d' y' (by simpa using f1) (by simpa using f2)
/-- .. where nothing is changed and each item is told by a function -/
theorem lc_map {vs : List Nat} {tg : Tg} {tt : Den Bool} {te : Den D} {w : List (Option D)} {st : Sto} {g : D → D} {ds : List D}
    (h : ∀ d ∈ ds, ∃ S, tgSet tg d w = some S ∧ tt ⟨S, st⟩ = .ok true ⟨S, st⟩ ∧ te ⟨S, st⟩ = .ok (g d) ⟨S, st⟩ ∧ wipeM S vs = w) (sl : List (Option D)) (hw : wipeM sl vs = w) :
    ∃ last, lcLoop vs tg tt te ds ⟨sl, st⟩ = .ok (ds.map g) ⟨last, st⟩ ∧ wipeM last vs = w := by
  obtain ⟨ys, last, st', e1, e2, p, l, q⟩ := lc_inv (P := fun _ s => s = st) (Q := fun d y => y = g d) (vs := vs) (tg := tg) (tt := tt) (te := te) (w := w) (ds := ds) 0 (fun d hd k s _ hs => by
    subst hs
    obtain ⟨S, a, b, c, e⟩ := h d hd
    exact ⟨S, g d, _, a, b, c, e, rfl, rfl⟩) sl st hw rfl
  subst p
  refine ⟨last, ?_, e2⟩
  rw [e1]
  congr 1
  apply List.ext_getElem?
  intro i
  rw [List.getElem?_map]
  cases hd : ds[i]? with
  | none =>
    have := List.getElem?_eq_none_iff.mp hd
    rw [List.getElem?_eq_none (by omega)]
    rfl
  | some d =>
    have hi := (List.getElem?_eq_some_iff.mp hd).1
    cases hy : ys[i]? with
    | none => have := List.getElem?_eq_none_iff.mp hy; omega
    | some y => rw [q i d y hd hy]; rfl
theorem wipeMi {i : Nat} : ∀ {vs : List Nat} {sl : List (Option D)}, i < sl.length → (wipeM sl vs)[i]? = if i ∈ vs then some none else sl[i]?
  | [], sl, _ => by simp [wipeM]
  | v :: vs, sl, h => by
    rw [wipeM, List.getElem?_set]
    by_cases e : v = i
    · subst e
      simp [wipeM_len, h]
    · rw [if_neg e, wipeMi h]
      have : (i ∈ v :: vs) ↔ i ∈ vs := by rw [List.mem_cons]; exact ⟨fun z => z.resolve_left fun y => e y.symm, .inr⟩
      simp only [this]
theorem backM_at {old cur : List (Option D)} {i : Nat} (hl : cur.length = old.length) (hi : i < old.length) : ∀ {vs : List Nat}, (backM old cur vs)[i]? = (if i ∈ vs then old[i]? else cur[i]?) ∧ (backM old cur vs).length = old.length
  | [] => by simp [backM, hl]
  | v :: vs => by
    obtain ⟨h1, h2⟩ := backM_at (vs := vs) hl hi
    rw [backM, List.getElem?_set, List.length_set]
    refine ⟨?_, h2⟩
    by_cases e : v = i
    · subst e
      simp [h2, hi]
    · rw [if_neg e, h1]
      have : (i ∈ v :: vs) ↔ i ∈ vs := by rw [List.mem_cons]; exact ⟨fun z => z.resolve_left fun y => e y.symm, .inr⟩
      simp only [this]
theorem back_wipe {old cur : List (Option D)} {vs : List Nat} (h : wipeM cur vs = wipeM old vs) : backM old cur vs = old := by
  have hl : cur.length = old.length := by have := congrArg List.length h; rw [wipeM_len, wipeM_len] at this; exact this
  apply List.ext_getElem?
  intro i
  by_cases hi : i < old.length
  · rw [(backM_at hl hi).1]
    by_cases e : i ∈ vs
    · rw [if_pos e]
    · rw [if_neg e]
      have := congrArg (·[i]?) h
      simp only [wipeMi hi, wipeMi (sl := cur) (by omega : i < cur.length), e, if_false] at this
      exact this
  · have : (backM old cur vs).length = old.length := by
      clear h hi
      induction vs with
      | nil => exact hl
      | cons v vs ih => rw [backM, List.length_set]; exact ih
    rw [List.getElem?_eq_none (by omega), List.getElem?_eq_none (by omega)]
/-- a whole comprehension that changes nothing -/
theorem eLc_map {src : Den (List D)} {vs : List Nat} {tg : Tg} {tt : Den Bool} {te : Den D} {m : MS} {ds : List D} {g : D → D} (hs : src m = .ok ds m) (hf : ds.length ≤ 16777216)
    (h : ∀ d ∈ ds, ∃ S, tgSet tg d (wipeM m.sl vs) = some S ∧ tt ⟨S, m.st⟩ = .ok true ⟨S, m.st⟩ ∧ te ⟨S, m.st⟩ = .ok (g d) ⟨S, m.st⟩ ∧ wipeM S vs = wipeM m.sl vs) :
    eLc src vs tg tt te m = .ok (.lst (ds.map g)) m := by
  obtain ⟨last, e1, e2⟩ := lc_map h m.sl rfl
  have fit : fitL ((ds.map g).length) = true := by rw [List.length_map]; unfold fitL; exact decide_eq_true hf
  unfold eLc Den.bind
  rw [hs]
  show (match lcLoop vs tg tt te ds m with
    | .ok ys m' => if fitL ys.length then R.ok (D.lst ys) { m' with sl := backM m.sl m'.sl vs } else .bad
    | .bad => .bad) = _
  rw [show m = ⟨m.sl, m.st⟩ from rfl, e1]
  simp only [fit, if_true, back_wipe e2]
/-! ### data that may be told -/
/-- of depth n at most, with b items at most -/
def RD (n b : Nat) (d : D) : Prop := ∃ p, toPy d = some p ∧ nic p = true ∧ p.depth ≤ n ∧ p.bulk ≤ b
theorem RD.rok {n b : Nat} {d : D} (h : RD n b d) (hn : n ≤ 16 := by decide) (hb : b ≤ 8000 := by decide) : rok d = true := by
  obtain ⟨p, e, h1, h2, h3⟩ := h
  unfold MI.rok
  rw [e]
  simp only [h1, Bool.true_and, Bool.and_eq_true, decide_eq_true_eq]
  omega
theorem RD.int {i : Int} (h1 : -(2 ^ 200) < i) (h2 : i < 2 ^ 200) {n b : Nat} : RD n b (.int i) := by
  have := log2_le h1 h2
  exact ⟨.int i, by rw [toPy], by rw [nic]; exact decide_eq_true (by omega), by rw [PyData.depth]; exact Nat.zero_le _, by rw [PyData.bulk]; exact Nat.zero_le _⟩
theorem RD.bl {c : Bool} {n b : Nat} : RD n b (.bl c) := ⟨.bool c, by rw [toPy], by rw [nic], by rw [PyData.depth]; exact Nat.zero_le _, by rw [PyData.bulk]; exact Nat.zero_le _⟩
theorem RD.non {n b : Nat} : RD n b .non := ⟨.none, by rw [toPy], by rw [nic], by rw [PyData.depth]; exact Nat.zero_le _, by rw [PyData.bulk]; exact Nat.zero_le _⟩
theorem RDs {n b : Nat} : ∀ {ds : List D}, (∀ d ∈ ds, RD n b d) → ∃ ps, toPys ds = some ps ∧ nics ps = true ∧ PyData.depthAll ps ≤ n ∧ PyData.bulkAll ps ≤ (b + 1) * ds.length
  | [], _ => ⟨[], by rw [toPys], by rw [nics], by rw [PyData.depthAll]; exact Nat.zero_le _, by rw [PyData.bulkAll]; exact Nat.zero_le _⟩
  | d :: ds, h => by
    obtain ⟨p, e, h1, h2, h3⟩ := h d (List.mem_cons_self ..)
    obtain ⟨ps, f, g1, g2, g3⟩ := RDs (ds := ds) fun x hx => h x (List.mem_cons_of_mem _ hx)
    refine ⟨p :: ps, by rw [toPys, e, f], by rw [nics, h1, g1]; rfl, by rw [PyData.depthAll]; omega, ?_⟩
    rw [PyData.bulkAll, List.length_cons, Nat.mul_add]
    omega
theorem RD.tup {n b l : Nat} {ds : List D} (h : ∀ d ∈ ds, RD n b d) (hl : ds.length ≤ l) : RD (n + 1) ((b + 1) * l) (.tup ds) := by
  obtain ⟨ps, f, g1, g2, g3⟩ := RDs h
  refine ⟨.tuple ps, by rw [toPy, f]; rfl, by rw [nic]; exact g1, by rw [PyData.depth]; omega, ?_⟩
  rw [PyData.bulk]
  exact Nat.le_trans g3 (Nat.mul_le_mul_left _ hl)
theorem RD.lst {n b l : Nat} {ds : List D} (h : ∀ d ∈ ds, RD n b d) (hl : ds.length ≤ l) : RD (n + 1) ((b + 1) * l) (.lst ds) := by
  obtain ⟨ps, f, g1, g2, g3⟩ := RDs h
  refine ⟨.list ps, by rw [toPy, f]; rfl, by rw [nic]; exact g1, by rw [PyData.depth]; omega, ?_⟩
  rw [PyData.bulk]
  exact Nat.le_trans g3 (Nat.mul_le_mul_left _ hl)
theorem RD.mono {n b n' b' : Nat} {d : D} (h : RD n b d) (hn : n ≤ n') (hb : b ≤ b') : RD n' b' d := by
  obtain ⟨p, e, h1, h2, h3⟩ := h
  exact ⟨p, e, h1, Nat.le_trans h2 hn, Nat.le_trans h3 hb⟩
/-! ### compared -/
mutual
theorem nic_lay : ∀ {p : PyData}, nic p = true → p.canLay0 = true
  | .none, _ => by rw [PyData.canLay0]
  | .bool _, _ => by rw [PyData.canLay0]
  | .int _, _ => by rw [PyData.canLay0]
  | .str x, h => by
    rw [nic] at h
    rw [PyData.canLay0, PyData.strOk, ← Array.all_toList, List.all_eq_true]
    intro k hk
    have := of_decide_eq_true (List.all_eq_true.mp h k hk)
    exact decide_eq_true (by omega)
  | .list xs, h => by rw [nic] at h; rw [PyData.canLay0]; exact nics_lay h
  | .tuple xs, h => by rw [nic] at h; rw [PyData.canLay0]; exact nics_lay h
  | .dict _, h => by rw [nic] at h; cases h
theorem nics_lay : ∀ {ps : List PyData}, nics ps = true → PyData.canLayAll0 ps = true
  | [], _ => by rw [PyData.canLayAll0]
  | p :: ps, h => by
    rw [nics, Bool.and_eq_true] at h
    rw [PyData.canLayAll0, nic_lay h.1, nics_lay h.2]; rfl
end
theorem RD.okE {n b : Nat} {d : D} (h : RD n b d) (hn : n ≤ 64 := by decide) : ∃ p, okE d = some p ∧ toPy d = some p := by
  obtain ⟨p, e, h1, h2, h3⟩ := h
  refine ⟨p, ?_, e⟩
  unfold MI.okE
  rw [e]
  have : SeqAt.shaped p = true := by
    unfold SeqAt.shaped
    rw [nic_lay h1, Bool.true_and, decide_eq_true_eq]
    omega
  simp only [this, if_true]
mutual
/-- no truths in it -/
def noB : PyData → Bool
  | .bool _ => false
  | .list xs | .tuple xs => noBs xs
  | .dict _ => false
  | .none | .int _ | .str _ => true
def noBs : List PyData → Bool
  | [] => true
  | x :: xs => noB x && noBs xs
end
mutual
theorem eqv_eq : ∀ {p q : PyData}, noB p = true → noB q = true → (PyData.eqv p q = true ↔ p = q)
  | .none, q, _, hq => by cases q <;> simp_all [PyData.eqv, noB]
  | .bool _, q, hp, _ => by rw [noB] at hp; cases hp
  | .int i, q, _, hq => by cases q <;> simp_all [PyData.eqv, noB]
  | .str x, q, _, hq => by cases q <;> simp_all [PyData.eqv, noB]
  | .list xs, q, hp, hq => by
    cases q <;> simp [PyData.eqv]
    next ys => rw [noB] at hp hq; exact eqvs_eq hp hq
  | .tuple xs, q, hp, hq => by
    cases q <;> simp [PyData.eqv]
    next ys => rw [noB] at hp hq; exact eqvs_eq hp hq
  | .dict _, q, hp, _ => by rw [noB] at hp; cases hp
theorem eqvs_eq : ∀ {ps qs : List PyData}, noBs ps = true → noBs qs = true → (PyData.eqvAll ps qs = true ↔ ps = qs)
  | [], [], _, _ => by simp [PyData.eqvAll]
  | [], _ :: _, _, _ => by simp [PyData.eqvAll]
  | _ :: _, [], _, _ => by simp [PyData.eqvAll]
  | p :: ps, q :: qs, hp, hq => by
    rw [noBs, Bool.and_eq_true] at hp hq
    rw [PyData.eqvAll, Bool.and_eq_true, eqv_eq hp.1 hq.1, eqvs_eq hp.2 hq.2, List.cons.injEq]
end
mutual
theorem eqv_refl : ∀ {p : PyData}, p.hasDict = false → PyData.eqv p p = true
  | .none, _ => by simp [PyData.eqv]
  | .bool _, _ => by simp [PyData.eqv]
  | .int _, _ => by simp [PyData.eqv]
  | .str _, _ => by simp [PyData.eqv]
  | .list xs, h => by rw [PyData.hasDict] at h; rw [PyData.eqv]; exact eqvs_refl h
  | .tuple xs, h => by rw [PyData.hasDict] at h; rw [PyData.eqv]; exact eqvs_refl h
  | .dict _, h => by rw [PyData.hasDict] at h; cases h
theorem eqvs_refl : ∀ {ps : List PyData}, PyData.hasDictAll ps = false → PyData.eqvAll ps ps = true
  | [], _ => by simp [PyData.eqvAll]
  | p :: ps, h => by
    rw [PyData.hasDictAll, Bool.or_eq_false_iff] at h
    rw [PyData.eqvAll, eqv_refl h.1, eqvs_refl h.2]; rfl
end
/-- told, and no truths in it -/
def RN (n b : Nat) (d : D) : Prop := ∃ p, toPy d = some p ∧ nic p = true ∧ p.depth ≤ n ∧ p.bulk ≤ b ∧ noB p = true
theorem RN.rd {n b : Nat} {d : D} (h : RN n b d) : RD n b d := by obtain ⟨p, e, h1, h2, h3, _⟩ := h; exact ⟨p, e, h1, h2, h3⟩
theorem RN.int {i : Int} (h1 : -(2 ^ 200) < i) (h2 : i < 2 ^ 200) {n b : Nat} : RN n b (.int i) := by
  obtain ⟨p, e, g1, g2, g3⟩ := RD.int h1 h2 (n := n) (b := b)
  rw [toPy] at e; cases e
  exact ⟨.int i, by rw [toPy], g1, g2, g3, by rw [noB]⟩
theorem RNs {n b : Nat} : ∀ {ds : List D}, (∀ d ∈ ds, RN n b d) → ∃ ps, toPys ds = some ps ∧ noBs ps = true
  | [], _ => ⟨[], by rw [toPys], by rw [noBs]⟩
  | d :: ds, h => by
    obtain ⟨p, e, h1, h2, h3, h4⟩ := h d (List.mem_cons_self ..)
    obtain ⟨ps, f, g1⟩ := RNs (ds := ds) fun x hx => h x (List.mem_cons_of_mem _ hx)
    exact ⟨p :: ps, by rw [toPys, e, f], by rw [noBs, h4, g1]; rfl⟩
theorem RN.tup {n b l : Nat} {ds : List D} (h : ∀ d ∈ ds, RN n b d) (hl : ds.length ≤ l) : RN (n + 1) ((b + 1) * l) (.tup ds) := by
  obtain ⟨p, e, g1, g2, g3⟩ := RD.tup (fun d hd => (h d hd).rd) hl
  obtain ⟨ps, f, g4⟩ := RNs h
  rw [toPy, f] at e
  cases e
  exact ⟨.tuple ps, by rw [toPy, f]; rfl, g1, g2, g3, by rw [noB]; exact g4⟩
theorem RN.lst {n b l : Nat} {ds : List D} (h : ∀ d ∈ ds, RN n b d) (hl : ds.length ≤ l) : RN (n + 1) ((b + 1) * l) (.lst ds) := by
  obtain ⟨p, e, g1, g2, g3⟩ := RD.lst (fun d hd => (h d hd).rd) hl
  obtain ⟨ps, f, g4⟩ := RNs h
  rw [toPy, f] at e
  cases e
  exact ⟨.list ps, by rw [toPy, f]; rfl, g1, g2, g3, by rw [noB]; exact g4⟩
theorem RN.mono {n b n' b' : Nat} {d : D} (h : RN n b d) (hn : n ≤ n') (hb : b ≤ b') : RN n' b' d := by
  obtain ⟨p, e, h1, h2, h3, h4⟩ := h
  exact ⟨p, e, h1, Nat.le_trans h2 hn, Nat.le_trans h3 hb, h4⟩
theorem eqB_RN {n b n' b' : Nat} {x y : D} (hx : RN n b x) (hy : RN n' b' y) (h1 : n ≤ 64 := by decide) (h2 : n' ≤ 64 := by decide) : ∃ c, eqB x y = some c ∧ (c = true ↔ x = y) := by
  obtain ⟨p, e1, f1⟩ := hx.rd.okE h1
  obtain ⟨q, e2, f2⟩ := hy.rd.okE h2
  obtain ⟨p', g1, _, _, _, n1⟩ := hx
  obtain ⟨q', g2, _, _, _, n2⟩ := hy
  rw [f1] at g1; cases g1
  rw [f2] at g2; cases g2
  unfold eqB
  rw [e1, e2]
  refine ⟨_, rfl, ?_⟩
  rw [eqv_eq n1 n2]
  exact ⟨fun h => by subst h; exact toPy_inj f1 f2, fun h => by subst h; rw [f1] at f2; exact Option.some.inj f2⟩
/-- x in a list or tuple -/
theorem any_mem {ds : List D} {x : D} {p : PyData} : ∀ {ps : List PyData}, toPys ds = some ps → toPy x = some p → (∀ q ∈ ps, PyData.eqv q p = true ↔ q = p) → (ps.any (fun z => PyData.eqv z p) = true ↔ x ∈ ds) := by
  induction ds with
  | nil => intro ps h _ _; rw [toPys] at h; cases h; simp
  | cons d ds ih =>
    intro ps h hx he
    obtain ⟨q, qs, h1, h2, rfl⟩ := toPys_cons h
    rw [List.any_cons, Bool.or_eq_true, he q (List.mem_cons_self ..), ih h2 hx fun z hz => he z (List.mem_cons_of_mem _ hz), List.mem_cons]
    constructor
    · rintro (z | z)
      · left; subst z; exact toPy_inj hx h1
      · exact .inr z
    · rintro (z | z)
      · left; subst z; rw [h1] at hx; exact Option.some.inj hx
      · exact .inr z
theorem noBs_mem : ∀ {ps : List PyData}, noBs ps = true → ∀ q ∈ ps, noB q = true
  | [], _, q, hq => by cases hq
  | p :: ps, h, q, hq => by
    rw [noBs, Bool.and_eq_true] at h
    rcases List.mem_cons.mp hq with z | z
    · rw [z]; exact h.1
    · exact noBs_mem h.2 q z
theorem gIn_tup {n b n' b' : Nat} {x : D} {ds : List D} (hx : RN n b x) (hd : RN n' b' (.tup ds)) (h1 : n ≤ 64 := by decide) (h2 : n' ≤ 64 := by decide) : ∃ c, gInA x (.tup ds) = some (.bl c) ∧ gNotInA x (.tup ds) = some (.bl !c) ∧ (c = true ↔ x ∈ ds) := by
  obtain ⟨p, e1, f1⟩ := hx.rd.okE h1
  obtain ⟨q, e2, f2⟩ := hd.rd.okE h2
  obtain ⟨p', g1, _, _, _, n1⟩ := hx
  obtain ⟨q', g2, _, _, _, n2⟩ := hd
  rw [f1] at g1; cases g1
  rw [f2] at g2; cases g2
  rw [toPy, Option.map_eq_some_iff] at f2
  obtain ⟨ps, f3, rfl⟩ := f2
  rw [noB] at n2
  have e : gIn x (.tup ds) = some (ps.any fun z => PyData.eqv z p) := by unfold gIn; simp only [e1, e2]
  refine ⟨ps.any fun z => PyData.eqv z p, by show gInD _ _ = _; unfold gInD; rw [e]; rfl, by show gNotInD _ _ = _; unfold gNotInD; rw [e]; rfl, ?_⟩
  exact any_mem f3 f1 fun q hq => eqv_eq (noBs_mem n2 q hq) n1
theorem gIn_lst {n b n' b' : Nat} {x : D} {ds : List D} (hx : RN n b x) (hd : RN n' b' (.lst ds)) (h1 : n ≤ 64 := by decide) (h2 : n' ≤ 64 := by decide) : ∃ c, gInA x (.lst ds) = some (.bl c) ∧ gNotInA x (.lst ds) = some (.bl !c) ∧ (c = true ↔ x ∈ ds) := by
  obtain ⟨p, e1, f1⟩ := hx.rd.okE h1
  obtain ⟨q, e2, f2⟩ := hd.rd.okE h2
  obtain ⟨p', g1, _, _, _, n1⟩ := hx
  obtain ⟨q', g2, _, _, _, n2⟩ := hd
  rw [f1] at g1; cases g1
  rw [f2] at g2; cases g2
  rw [toPy, Option.map_eq_some_iff] at f2
  obtain ⟨ps, f3, rfl⟩ := f2
  rw [noB] at n2
  have e : gIn x (.lst ds) = some (ps.any fun z => PyData.eqv z p) := by unfold gIn; simp only [e1, e2]
  refine ⟨ps.any fun z => PyData.eqv z p, by show gInD _ _ = _; unfold gInD; rw [e]; rfl, by show gNotInD _ _ = _; unfold gNotInD; rw [e]; rfl, ?_⟩
  exact any_mem f3 f1 fun q hq => eqv_eq (noBs_mem n2 q hq) n1
/-- what is told of x among what is told of others -/
theorem told_all : ∀ {ds : List D}, (∀ d ∈ ds, rok d = true) → ∃ ps, toPys (ds.map fun d => .str (sh d)) = some ps ∧ PyData.canLayAll0 ps = true ∧ PyData.depthAll ps ≤ 0 ∧ noBs ps = true
  | [], _ => ⟨[], by rw [List.map_nil, toPys], by rw [PyData.canLayAll0], by rw [PyData.depthAll]; exact Nat.le_refl _, by rw [noBs]⟩
  | d :: ds, h => by
    obtain ⟨ps, h1, h2, h3, h4⟩ := told_all (ds := ds) fun x hx => h x (List.mem_cons_of_mem _ hx)
    obtain ⟨e1, e2⟩ := okE_some (okE_sh (h d (List.mem_cons_self ..)))
    have e3 := SeqAt.canLay_of_shaped e2
    exact ⟨.str (sh d) :: ps, by rw [List.map_cons, toPys, e1, h1], by rw [PyData.canLayAll0, e3, h2]; rfl, by rw [PyData.depthAll, PyData.depth]; omega, by rw [noBs, noB, h4]; rfl⟩
theorem gIn_told {x : D} {ds : List D} (hx : rok x = true) (hd : ∀ d ∈ ds, rok d = true) : ∃ c, gInA (.str (sh x)) (.lst (ds.map fun d => .str (sh d))) = some (.bl c) ∧ (c = true ↔ x ∈ ds) := by
  obtain ⟨ps, h1, h2, h3, h4⟩ := told_all hd
  have e1 := okE_sh hx
  have e2 : okE (.lst (ds.map fun d => .str (sh d))) = some (.list ps) := by
    unfold MI.okE
    rw [toPy, h1]
    have : SeqAt.shaped (.list ps) = true := by
      unfold SeqAt.shaped
      rw [PyData.canLay0, h2, PyData.depth, Bool.true_and, decide_eq_true_eq]
      omega
    simp only [Option.map_some, this, if_true]
  refine ⟨ps.any fun z => PyData.eqv z (.str (sh x)), ?_, ?_⟩
  · show gInD _ _ = _
    unfold gInD gIn
    simp only [e1, e2]
    rfl
  · rw [any_mem h1 (x := .str (sh x)) (by rw [toPy]) fun q hq => eqv_eq (noBs_mem h4 q hq) (by rw [noB])]
    constructor
    · intro h
      obtain ⟨d, h5, h6⟩ := List.mem_map.mp h
      have := sh_inj (hd d h5) hx (by injection h6)
      rw [← this]; exact h5
    · intro h
      exact List.mem_map.mpr ⟨x, h, rfl⟩
/-! ### more parts at a state -/
section
variable {m : MS} {f : Den D} {h : Den Hd} {hs : Den (List Hd)} {po po2 : Den (Option Int)}
@[simp] theorem pNo_at : pNo m = .ok none m := rfl
@[simp] theorem pInt_at : pInt f m = match f m with
  | .ok d m1 => match d with
    | .int i => .ok (some i) m1
    | _ => .bad
  | .bad => .bad := by
  simp only [pInt, Den.bind]
  cases f m with
  | bad => rfl
  | ok d m1 => cases d <;> rfl
@[simp] theorem eCut_at : eCut h po po2 m = match h m with
  | .ok x m1 => match po m1 with
    | .ok lo m2 => match po2 m2 with
      | .ok hi m3 => match look x m3 with
        | some d => match gCut d lo hi with
          | some z => .ok z m3
          | none => .bad
        | none => .bad
      | .bad => .bad
    | .bad => .bad
  | .bad => .bad := by
  simp only [eCut, Den.bind]
  cases h m with
  | bad => rfl
  | ok x m1 =>
    try dsimp only
    all_goals
      cases po m1 with
      | bad => rfl
      | ok lo m2 =>
        try dsimp only
        all_goals
          cases po2 m2 with
          | bad => rfl
          | ok hi m3 => rfl
@[simp] theorem iRange1_at : iRange1 hs m = match hs m with
  | .ok xs m1 => match looksV xs with
    | some [.int j] => if smallI j then .ok (rangeD 0 j.toNat) m1 else .bad
    | _ => .bad
  | .bad => .bad := by
  simp only [iRange1, Den.bind]
  cases hs m with
  | bad => rfl
  | ok xs m1 => rfl
end
end MI

namespace MI
open PySem PySem.Spec L2

/-- a list, or a tuple -/
def Sd (t : Bool) (K : PySem.W.Frag) (H : Hp) (a : Addr) (xs : List V) : Prop := match t with
  | true => SqT K H a xs
  | false => SqL K H a xs
def sIt (t : Bool) (h : Heap) (it a : Addr) (i : Nat) : Prop := match t with
  | true => h.IsTupleIter it a i
  | false => h.IsListIter it a i
def sSq (t : Bool) (h : Heap) (a : Addr) (its : Array Value) : Prop := match t with
  | true => h.IsTuple a its
  | false => h.IsList a its
theorem sIt.at_ {t : Bool} {h h' : Heap} {it a : Addr} {i : Nat} (s : sIt t h it a i) (k : ∀ o, h.get? it = some o → h'.get? it = some o) : sIt t h' it a i := by
  cases t with
  | true => exact Heap.IsTupleIter.at s k
  | false => exact Heap.IsListIter.at s k
theorem sIt.obj {t : Bool} {h : Heap} {it a : Addr} {i : Nat} (s : sIt t h it a i) : ∃ o, h.get? it = some o ∧ ∃ vs, o.data = .fields vs := by
  cases t with
  | true => obtain ⟨o, e, _, d⟩ := (show h.IsTupleIter it a i from s); exact ⟨o, e, _, d⟩
  | false => obtain ⟨o, e, _, d⟩ := (show h.IsListIter it a i from s); exact ⟨o, e, _, d⟩
theorem sSq.obj {t : Bool} {h : Heap} {a : Addr} {its : Array Value} (s : sSq t h a its) : ∃ o, h.get? a = some o ∧ ∃ us n, o.data = .seq us n := by
  cases t with
  | true => obtain ⟨o, e, _, n, d⟩ := (show h.IsTuple a its from s); exact ⟨o, e, _, n, d⟩
  | false => obtain ⟨o, e, _, n, d⟩ := (show h.IsList a its from s); exact ⟨o, e, _, n, d⟩
theorem sd_ne {t t' : Bool} {h : Heap} {it a b : Addr} {i : Nat} {its : Array Value} (s : sIt t h it b i) (q : sSq t' h a its) : a ≠ it := by
  rintro rfl
  obtain ⟨o1, e1, v, d1⟩ := s.obj
  obtain ⟨o2, e2, u, n, d2⟩ := q.obj
  rw [e1] at e2; cases e2; rw [d1] at d2; cases d2
theorem sd_inv {X : Cx} {pins : List (Addr × Obj)} {σ : St} {H : Hp} {s : Shared} {t : Bool} {a : Addr} {xs : List V} (I : Inv X pins σ H s) (h : Sd t X.K H a xs) : ∃ its, Vals xs its ∧ sSq t s.heap a its.toArray ∧ a < s.heap.objs.size := by
  cases t with
  | true =>
    obtain ⟨its, rv, p, _⟩ := I.tuple h
    obtain ⟨o, ho, _⟩ := id p
    exact ⟨its, rv, p, Heap.lt_size ho⟩
  | false =>
    obtain ⟨its, rv, p, _⟩ := I.list h
    exact ⟨its, rv, p.isList, p.lt⟩
theorem sd_inj {X : Cx} {pins : List (Addr × Obj)} {σ : St} {H : Hp} {s : Shared} {t : Bool} {a : Addr} {xs ys : List V} (I : Inv X pins σ H s) (h : Sd t X.K H a xs) (h' : Sd t X.K H a ys) : xs = ys := by
  cases t with
  | true => exact I.tuple_inj h h'
  | false => exact I.list_inj h h'
theorem sd_draws {prog : Program} {w : World} {A : Around} (hh : A.handled = none) (t : Bool) (it l : Addr) (hne : l ≠ it) (its : Array Value) : Draws prog w A it [it, l] its.size (fun i v => its[i]? = some v) (fun i h => sIt t h it l i ∧ sSq t h l its) := by
  cases t with
  | true => exact Draws.tuple hh it l hne its
  | false => exact Draws.list hh it l hne its
/-- the items in new pairs -/
def ItzF (K : PySem.W.Frag) (t : Bool) (a : Addr) (u : Bool) (b : Addr) : It :=
  ⟨fun i H => ∃ (xs ys : List V) (x y : V), Sd t K H a xs ∧ Sd u K H b ys ∧ xs[i]? = some x ∧ ys[i]? = some y,
   fun i H v H' => ∃ T x y ob, v = .ref T ∧ H T = none ∧ ob.dict = none ∧ H' = upd H T (.frz ob (.tup [x, y])) ∧ (∀ xs, Sd t K H a xs → xs[i]? = some x) ∧ ∀ ys, Sd u K H b ys → ys[i]? = some y,
   fun i H => ∃ xs ys : List V, Sd t K H a xs ∧ Sd u K H b ys ∧ i ≤ xs.length ∧ i ≤ ys.length ∧ (i = xs.length ∨ i = ys.length)⟩
theorem turn_zipF {P : Program} {w : World} {K : PySem.W.Frag} {elts : List Expr} {kk : Nat} {tpos : Pos} {t u : Bool} {a b z TI TO i1 i2 : Addr} (S : ZipSep2 z TI TO i1 i2 [i1, a] [i2, b]) :
    Turn P w K (.Tuple elts kk tpos) (ItzF K t a u b) [z, TI, TO, i1, i2] z (fun i h => IsZip h z TI TO .none ∧ IsTupOf2 h TI (.ref i1) (.ref i2) ∧ (∃ x y, IsTupOf2 h TO x y) ∧ sIt t h i1 a i ∧ sIt u h i2 b i) where
  mem := by simp
  obj := fun i h st c hc => by
    obtain ⟨hz, hTI, ⟨x, y, hTO⟩, h1, h2⟩ := st
    obtain ⟨o1, e1, v1, d1⟩ := h1.obj
    obtain ⟨o2, e2, v2, d2⟩ := h2.obj
    have five : c = z ∨ c = TI ∨ c = TO ∨ c = i1 ∨ c = i2 := by simpa using hc
    rcases five with q | q | q | q | q
    · rw [q]; exact ⟨_, hz, fun v q => nomatch q⟩
    · rw [q]; exact ⟨_, hTI, fun v q => nomatch q⟩
    · rw [q]; exact ⟨_, hTO, fun v q => nomatch q⟩
    · rw [q]; exact ⟨o1, e1, fun v q => by rw [d1] at q; cases q⟩
    · rw [q]; exact ⟨o2, e2, fun v q => by rw [d2] at q; cases q⟩
  keep := fun i h h' st k => by
    obtain ⟨hz, hTI, ⟨x, y, hTO⟩, h1, h2⟩ := st
    exact ⟨k z (by simp) _ hz, k TI (by simp) _ hTI, ⟨x, y, k TO (by simp) _ hTO⟩, h1.at_ fun o q => k i1 (by simp) o q, h2.at_ fun o q => k i2 (by simp) o q⟩
  item := by
    intro X hP hw hK hc i pins s σ H E I hf st hg
    subst hP hw hK
    obtain ⟨hz, hTI, ⟨x0, y0, hTO⟩, h1, h2⟩ := st
    obtain ⟨xs, ys, x, y, hqx, hqy, hx, hy⟩ := hg
    obtain ⟨its, rv, p1, l1⟩ := sd_inv I hqx
    obtain ⟨its2, rv2, p2, l2⟩ := sd_inv I hqy
    obtain ⟨v, hv, ru⟩ := rv.get hx
    obtain ⟨v2, hv2, ru2⟩ := rv2.get hy
    have hzl : z < s.heap.objs.size := Heap.lt_size hz
    have D1 := sd_draws (prog := X.prog) (w := X.w) (A := X.A.in1) (by have := I.ok.hd hc; exact this) t i1 a (sd_ne h1 p1) its.toArray
    have D2 := sd_draws (prog := X.prog) (w := X.w) (A := X.A.in1) (by have := I.ok.hd hc; exact this) u i2 b (sd_ne h2 p2) its2.toArray
    have n1 : i < its.toArray.size := by have := (List.getElem?_eq_some_iff.mp hv).1; simpa using this
    have n2 : i < its2.toArray.size := by have := (List.getElem?_eq_some_iff.mp hv2).1; simpa using this
    refine wpAny_pyNext_zipD2_item S D1 D2 hz hTI hTO ⟨h1, p1⟩ ⟨h2, p2⟩ n1 n2 fun y1 y2 h' tk e1 e2 z' TO' st1 st2 hT hsz hk => ?_
    have q1 : y1 = v := by
      have a1 : its.toArray[i]? = some v := by simpa using hv
      rw [e1] at a1; exact Option.some.inj a1
    have q2 : y2 = v2 := by
      have a1 : its2.toArray[i]? = some v2 := by simpa using hv2
      rw [e2] at a1; exact Option.some.inj a1
    subst q1; subst q2
    refine ⟨_, rfl, wpAny_letOwnedTupleGo_zip (s := { s with heap := h', toks := tk }) z' fun h'' z'' sb => ?_⟩
    have hT2 : h''.get? s.heap.objs.size = some { cls := .type "tuple", data := .seq #[y1, y2] } := (sb.2 _ (Nat.ne_of_gt hzl)).trans hT
    have nw : ObjOk X.prog X.w (upd H s.heap.objs.size (.frz (newT [y1, y2]) (.tup [x, y]))) h'' s.heap.objs.size (.frz (newT [y1, y2]) (.tup [x, y])) :=
      newT_ok (by show 2 ≤ sizeLine; decide) (.cons ru (.cons ru2 .nil)) hT2
    have I1 : Inv X pins σ (upd H s.heap.objs.size (.frz (newT [y1, y2]) (.tup [x, y]))) { s with heap := h'', toks := tk } :=
      I.turnedNew (ch := [z, TI, TO, i1, i2]) (fun c o hb q => (sb.2 c (fun q' => hb (by simp [q']))).trans (hk c o (fun q' => hb (by simp [q'])) (fun q' => hb (by simp [q'])) (fun q' => hb (by simp [q'])) (fun q' => hb (by simp [q'])) q)) hf (Nat.le_refl _) nw
    have iz1 : i1 ≠ z := fun e => S.zi1 e.symm
    have iz2 : i2 ≠ z := fun e => S.zi2 e.symm
    refine ⟨.ref s.heap.objs.size, _, I1, rfl, ⟨_, x, y, _, rfl, I.hok.fresh (Nat.le_refl _), rfl, rfl, fun l hl => by rw [sd_inj I hl hqx]; exact hx, fun l hl => by rw [sd_inj I hl hqy]; exact hy⟩, ⟨z'', ?_, ⟨y1, y2, ?_⟩, ?_, ?_⟩, fun c hcm => ?_⟩
    · exact (sb.2 _ S.TIz).trans (hk _ _ S.TIz S.TITO S.TIi1 S.TIi2 hTI)
    · exact (sb.2 _ S.TOz).trans TO'
    · exact st1.1.at_ fun o q => (sb.2 _ iz1).trans q
    · exact st2.1.at_ fun o q => (sb.2 _ iz2).trans q
    · have hlt : c < s.heap.objs.size := by
        have five : c = z ∨ c = TI ∨ c = TO ∨ c = i1 ∨ c = i2 := by simpa using hcm
        rcases five with q | q | q | q | q
        · rw [q]; exact hzl
        · rw [q]; exact Heap.lt_size hTI
        · rw [q]; exact Heap.lt_size hTO
        · rw [q]; obtain ⟨_, e1, _⟩ := h1.obj; exact Heap.lt_size e1
        · rw [q]; obtain ⟨_, e2, _⟩ := h2.obj; exact Heap.lt_size e2
      rw [upd_ne (Nat.ne_of_lt hlt)]
      exact (hf c hcm).1
  done := by
    intro X hP hw hK hc i pins s σ H E I hf st hg
    subst hP hw hK
    obtain ⟨hz, hTI, ⟨x0, y0, hTO⟩, h1, h2⟩ := st
    obtain ⟨xs, ys, hqx, hqy, ix, iy, hend⟩ := hg
    obtain ⟨its, rv, p1, l1⟩ := sd_inv I hqx
    obtain ⟨its2, rv2, p2, l2⟩ := sd_inv I hqy
    have m1 := rv.length
    have m2 := rv2.length
    have D1 := sd_draws (prog := X.prog) (w := X.w) (A := X.A.in1) (by have := I.ok.hd hc; exact this) t i1 a (sd_ne h1 p1) its.toArray
    have D2 := sd_draws (prog := X.prog) (w := X.w) (A := X.A.in1) (by have := I.ok.hd hc; exact this) u i2 b (sd_ne h2 p2) its2.toArray
    refine wpAny_pyNext_zipD2_end S D1 D2 hz hTI hTO ⟨h1, p1⟩ ⟨h2, p2⟩ (by simp only [List.size_toArray]; omega) (by simp only [List.size_toArray]; omega) (by simp only [List.size_toArray]; omega) fun h' tk hk => ⟨rfl, I.turnedL (ch := [z, TI, TO, i1, i2]) (fun c o hb q =>
      hk c o (fun q' => hb (by simp [q'])) (fun q' => hb (by simp [q'])) (fun q' => hb (by simp [q'])) (fun q' => hb (by simp [q'])) q) hf⟩
  self := fun A i s Q E st h => wpAny_pyIter_zip st.1 h
theorem sd_begins (t : Bool) (l : Addr) (items : Array Value) : ∃ o, Begins (.ref l) o (fun h => sSq t h l items) ∧ ∀ (h : Heap) (p : Addr), h.get? p = some o → sIt t h p l 0 := by
  cases t with
  | true => exact ⟨_, begins_tup l items, fun h p e => ⟨_, e, rfl, rfl⟩⟩
  | false => exact ⟨_, begins_list l items, fun h p e => ⟨_, e, rfl, rfl⟩⟩
def iZipS (K : PySem.W.Frag) (ta : TA) : TI := fun σ H R => ta σ H fun vs H1 => ∃ t a u b xs ys, vs = [.ref a, .ref b] ∧ Sd t K H1 a xs ∧ Sd u K H1 b ys ∧ R (ItzF K t a u b) H1
theorem pi_zipS {X : Cx} {e e2 : Expr} {ta : TA} {p pos tpos : Pos} {elts : List Expr} {kk : Nat} (hg : Gl X "zip") (hm : X.mg "zip" = none) (ha : PA X [e, e2] ta)
    (hs : starEach [e, e2] X.env = (false, eval e X.env) :: starEach [e2] X.env := by rfl) (hpl : (backTo pos (starEach [e2] X.env)).any (·.1) = false := by rfl) :
    PI X (.Tuple elts kk tpos) (.Call (.Name "zip" p) [e, e2] [] pos) (iZipS X.K ta) := by
  refine ⟨fun pins s σ H R I h => ?_⟩
  refine PyProof.Rows.Call_ (ld_blt I hg hm PyProof.Rows.boot_zip (PyProof.Rows.callWith_type1 (thn (ha.run pos pins s σ H _ I h) fun us s1 ⟨vs, H1, I1, r1, q1⟩ => ?_) hs hpl))
  obtain ⟨t, a, u, b, xs, ys, ex, hqx, hqy, q⟩ := q1
  subst ex
  cases r1 with
  | cons r rr =>
    cases rr with
    | cons r' rr =>
      cases rr
      cases r
      cases r'
      obtain ⟨its, rv, p1, l1⟩ := sd_inv I1 hqx
      obtain ⟨its2, rv2, p2, l2⟩ := sd_inv I1 hqy
      obtain ⟨o1, B1, b1⟩ := sd_begins t a its.toArray
      obtain ⟨o2, B2, b2⟩ := sd_begins u b its2.toArray
      have fp : ∀ c ∈ [s1.heap.objs.size + 4, s1.heap.objs.size + 2, s1.heap.objs.size + 3, s1.heap.objs.size, s1.heap.objs.size + 1], FpOk X pins H1 c := fun c hcm => by
        have le : s1.heap.objs.size ≤ c := by
          rcases (show c = s1.heap.objs.size + 4 ∨ c = s1.heap.objs.size + 2 ∨ c = s1.heap.objs.size + 3 ∨ c = s1.heap.objs.size ∨ c = s1.heap.objs.size + 1 by simpa using hcm) with z | z | z | z | z <;> omega
        exact I1.fpOk le (I1.hok.fresh le)
      refine zip_begins2 B1 B2 p1 p2 fun h' hz hTI hTO g1 g2 hsz hk => wpAny_pyIter_zip hz ?_
      exact ⟨s1.heap.objs.size + 4, [s1.heap.objs.size + 4, s1.heap.objs.size + 2, s1.heap.objs.size + 3, s1.heap.objs.size, s1.heap.objs.size + 1], _, _, H1, rfl, I1.kept (t' := s1.toks) hk,
        turn_zipF (zip_sep2 (fp1 := [a]) (fp2 := [b]) (by simpa using l1) (by simpa using l2)), ⟨hz, hTI, ⟨_, _, hTO⟩, b1 _ _ g1, b2 _ _ g2⟩, fp, q⟩
/-! ### by data -/
def zipD : List D → List D → List D
  | x :: xs, y :: ys => .tup [x, y] :: zipD xs ys
  | _, _ => []
theorem zipD_len : ∀ xs ys : List D, (zipD xs ys).length = min xs.length ys.length
  | [], ys => by simp [zipD]
  | x :: xs, [] => by simp [zipD]
  | x :: xs, y :: ys => by rw [zipD, List.length_cons, zipD_len xs ys, List.length_cons, List.length_cons]; omega
theorem zipD_get : ∀ {xs ys : List D} {i : Nat} {d : D}, (zipD xs ys)[i]? = some d → ∃ x y, xs[i]? = some x ∧ ys[i]? = some y ∧ d = .tup [x, y]
  | [], ys, i, d, h => by simp [zipD] at h
  | x :: xs, [], i, d, h => by simp [zipD] at h
  | x :: xs, y :: ys, 0, d, h => by
    rw [zipD] at h
    simp at h
    exact ⟨x, y, rfl, rfl, h.symm⟩
  | x :: xs, y :: ys, i + 1, d, h => by
    rw [zipD, List.getElem?_cons_succ] at h
    obtain ⟨u, v, h1, h2, h3⟩ := zipD_get h
    exact ⟨u, v, by simpa using h1, by simpa using h2, h3⟩
def seqD : D → Option (Bool × List D)
  | .lst ds => some (false, ds)
  | .tup ds => some (true, ds)
  | _ => none
def iZip2 (f : Den (List Hd)) : Den (List D) := f.bind fun hs => fun m => match looksV hs with
  | some [a, b] => match seqD a, seqD b with
    | some (_, xs), some (_, ys) => .ok (zipD xs ys) m
    | _, _ => .bad
  | _ => .bad
section
variable {cls : Nat → Addr} {own : Nat → Bool} {X : Cx} {e e2 : Expr} {pos p tpos : Pos} {fs : Den (List Hd)} {elts : List Expr} {kk : Nat}
theorem sd_of {K : KX} {Z : Hp} {al : List Addr} {v : V} {d : D} {t : Bool} {ds : List D} (h : DV K Z al v d) (e : seqD d = some (t, ds)) : ∃ a xs, v = .ref a ∧ DVs K Z al xs ds ∧ ∀ H, Same Z H → Sd t K.K H a xs := by
  cases d with
  | lst ds' =>
    cases e
    cases h with
    | lst h1 h2 => exact ⟨_, _, rfl, h2, fun H s => .inl (.inl (s _ _ h1))⟩
  | tup ds' =>
    cases e
    cases h with
    | tup h1 h2 => exact ⟨_, _, rfl, h2, fun H s => Same.tupS s h1⟩
  | _ => cases e
theorem walk_zipF {K : KX} {Gs : Gh} {als : List Addr} {t u : Bool} {a b : Addr} {xs ys : List V} {ds es : List D} (h1 : ∀ H, Same (Zof Gs) H → Sd t K.K H a xs) (r1 : DVs K (Zof Gs) als xs ds) (h2 : ∀ H, Same (Zof Gs) H → Sd u K.K H b ys) (r2 : DVs K (Zof Gs) als ys es) : WalkD K cls own (ItzF K.K t a u b) (zipD ds es) Gs als where
  goes := fun G al m σ H i ev rs hi => by
    rw [zipD_len] at hi
    obtain ⟨v, g1, _⟩ := r1.get (List.getElem?_eq_getElem (by omega : i < ds.length))
    obtain ⟨v2, g2, _⟩ := r2.get (List.getElem?_eq_getElem (by omega : i < es.length))
    exact ⟨xs, ys, v, v2, h1 _ (fun _ _ z => rs.zh _ _ (ev.same _ _ z)), h2 _ (fun _ _ z => rs.zh _ _ (ev.same _ _ z)), g1, g2⟩
  stops := fun G al m σ H ev rs => by
    have l1 := r1.length
    have l2 := r2.length
    refine ⟨xs, ys, h1 _ (fun _ _ z => rs.zh _ _ (ev.same _ _ z)), h2 _ (fun _ _ z => rs.zh _ _ (ev.same _ _ z)), ?_, ?_, ?_⟩ <;> rw [zipD_len] <;> omega
  yields := fun G al m σ H i x H' d ev rs hd y => by
    obtain ⟨T, x0, y0, ob, rfl, hT, hdb, rfl, hx0, hy0⟩ := y
    obtain ⟨dx, dy, g1, g2, rfl⟩ := zipD_get hd
    obtain ⟨v, f1, k1⟩ := (r1.evz ev).get g1
    obtain ⟨v2, f2, k2⟩ := (r2.evz ev).get g2
    have q1 := hx0 xs (h1 _ (fun _ _ z => rs.zh _ _ (ev.same _ _ z)))
    rw [f1] at q1; cases q1
    have q2 := hy0 ys (h2 _ (fun _ _ z => rs.zh _ _ (ev.same _ _ z)))
    rw [f2] at q2; cases q2
    exact yield_pair rs hT hdb k1 k2
theorem si_zip (hg : Gl X "zip") (hm : X.mg "zip" = none) (ha : SHs cls own X [e, e2] fs)
    (hs : starEach [e, e2] X.env = (false, eval e X.env) :: starEach [e2] X.env := by rfl) (hpl : (backTo pos (starEach [e2] X.env)).any (·.1) = false := by rfl) :
    SI cls own X (.Tuple elts kk tpos) (.Call (.Name "zip" p) [e, e2] [] pos) (iZip2 fs) := by
  refine pi_imp (pi_zipS hg hm ha hs hpl) fun σ H R q => ?_
  obtain ⟨G, al, m, ds, m', r, e, k⟩ := q
  obtain ⟨hs, m1, e1, e⟩ := bind_ok e
  refine ⟨G, al, m, hs, m1, r, e1, fun G1 al1 v H1 ev1 r1 hv => ?_⟩
  split at e
  · next a b l =>
    split at e
    · next t xs u ys s1 s2 =>
      cases e
      have dv := looksV_dv hv l
      cases dv with
      | cons d1 d2 =>
        cases d2 with
        | cons d2 d3 =>
          cases d3
          obtain ⟨pa, vs1, rfl, c1, k1⟩ := sd_of d1 s1
          obtain ⟨pb, vs2, rfl, c2, k2⟩ := sd_of d2 s2
          exact ⟨t, pa, u, pb, vs1, vs2, rfl, k1 _ r1.zh, k2 _ r1.zh, k G1 al1 H1 _ ev1 r1 (walk_zipF k1 c1 k2 c2)⟩
    · cases e
  · cases e
end
section
variable {m : MS} {hs : Den (List Hd)}
@[simp] theorem iZip2_at : iZip2 hs m = match hs m with
  | .ok xs m1 => match looksV xs with
    | some [a, b] => match seqD a, seqD b with
      | some (_, us), some (_, vs) => .ok (zipD us vs) m1
      | _, _ => .bad
    | _ => .bad
  | .bad => .bad := by
  simp only [iZip2, Den.bind]
  cases hs m with
  | bad => rfl
  | ok xs m1 => rfl
end
end MI

namespace MI
open PySem PySem.Spec L2 PyProof.Rows

section
variable {prog : Program} {w : World} {A : Around} {E : Value → Shared → Prop}
theorem draw_lst {it l : Addr} {items : Array Value} (hne : l ≠ it) : ∀ (n i : Nat) (s : Shared) (Q : List Value → Shared → Prop), s.heap.IsListIter it l i → s.heap.IsList l items → i + n ≤ items.size →
    (∀ h', h'.IsListIter it l (i + n) → Heap.SameBut it s.heap h' → Q ((items.toList.drop i).take n) { s with heap := h' }) → wpAny (model prog w) A (draw (.ref it) n) Q E s
  | 0, i, s, Q, hit, _, _, k => by
    show wpAny _ _ (pure []) Q E s
    exact wpAny_pure (by simpa using k s.heap hit (Heap.SameBut.refl ..))
  | n + 1, i, s, Q, hit, hl, le, k => by
    have lt : i < items.size := by omega
    show wpAny _ _ (pyNext (.ref it) >>= _) Q E s
    refine wpAny_bind (wpAny_pyNext_list_item hit hl (x := items[i]) (by simp [lt]) fun h1 hit1 s1 => ?_)
    refine wpAny_bind (wpAny_holding (draw_lst hne n (i + 1) _ _ hit1 (hl.extBut s1.extBut hne) (by omega) fun h2 hit2 s2 => wpAny_pure ?_))
    have split : items.toList.drop i = items[i] :: items.toList.drop (i + 1) := by simp [List.drop_eq_getElem_cons, lt]
    have q := k h2 (by rw [show i + (n + 1) = i + 1 + n by omega]; exact hit2) (s1.trans s2)
    rw [split, List.take_succ_cons] at q
    exact q
variable {s : Shared}
theorem unpack_lst {l : Addr} {items : Array Value} {Q : List Value → Shared → Prop} (hh : A.handled = none) (hl : s.heap.IsList l items)
    (k : ∀ h', Heap.ExtBut s.heap.objs.size s.heap h' → Q items.toList { s with heap := h' }) : wpAny (model prog w) A (unpackItems (.ref l) items.size none) Q E s := by
  have ne : l ≠ s.heap.objs.size := by obtain ⟨o, ho, _⟩ := hl; exact Nat.ne_of_lt (Heap.lt_size ho)
  have at0 : (s.heap.push { cls := .type "list_iterator", data := .fields #[.ref l, .int 0 0] }).IsListIter s.heap.objs.size l 0 := ⟨_, Heap.get?_push_size _ rfl, rfl, rfl⟩
  have hl1 : (s.heap.push { cls := .type "list_iterator", data := .fields #[.ref l, .int 0 0] }).IsList l items := by
    obtain ⟨o, e, c, d⟩ := hl
    exact ⟨o, Heap.get?_push_of_some _ e, c, d⟩
  unfold unpackItems notIterableAtAll
  refine wpAny_bind (wpAny_bind (wpAny_specialOf hl.typeIs slot_list_iter.lookup (wpAny_pure ?_)))
  simp only [Bool.false_eq_true, if_false]
  refine wpAny_bind (wpAny_holding (wpAny_pyIter_list hl (wpAny_bind (wpAny_holding (draw_lst ne items.size 0 _ _ at0 hl1 (by omega) fun h1 hit1 s1 => ?_)))))
  have all : List.take items.size (List.drop 0 items.toList) = items.toList := by
    rw [List.drop_zero]; exact List.take_of_length_le (by simp)
  rw [all, if_neg (by simp)]
  refine wpAny_bind (wpAny_holding (wpAny_pyNext_list_end hh hit1 (hl1.extBut s1.extBut ne) (by simp) fun h2 e2 => ?_))
  simp only [Option.isSome_none, Bool.false_eq_true, if_false]
  exact wpAny_pure (k h2 fun b o hb e => e2 b o hb (s1.extBut b o hb (Heap.get?_push_of_some _ e)))
theorem assign_lst {env : Env} {elts : List Expr} {x1} {pos : Pos} {l : Addr} {items : Array Value} {Q : Unit → Shared → Prop} (hh : A.handled = none) (hl : s.heap.IsList l items)
    (hn : (assignEach elts env).length = items.size) (hstar : (assignEach elts env).findIdx? (·.1) = none)
    (k : ∀ h', Heap.ExtBut s.heap.objs.size s.heap h' → wpAny (model prog w) A (assignInOrder ((assignEach elts env).map (·.2)) items.toList) Q E { s with heap := h' }) :
    wpAny (model prog w) A (assign (.Tuple elts x1 pos) env (.ref l)) Q E s := by
  rw [assign_Tuple]
  refine wpAny_bind (wpAny_standAt ?_)
  unfold unpack
  rw [hn, hstar]
  exact wpAny_bind (wpAny_holding (unpack_lst hh hl k))
end
section
variable {X : Cx} {cls : Nat → Addr} {own : Nat → Bool} {es : List Expr} {tgs : List Tg} {pos : Pos}
def gTupL (K : PySem.W.Frag) (n : Nat) (t : TGs) : TG := fun v σ H Q => ∃ a xs, v = .ref a ∧ SqL K H a xs ∧ xs.length = n ∧ t xs σ H Q
theorem pg_tupL {k : Nat} {t : TGs} {n : Nat} (hc : X.calm = true) (h : PGs X es t) (hn : (assignEach es X.env).length = n := by rfl) (hst : (assignEach es X.env).findIdx? (·.1) = none := by rfl) : PG X (.Tuple es k pos) (gTupL X.K n t) := by
  refine ⟨fun pins s σ H v u Q I r hw => ?_⟩
  obtain ⟨a, xs, rfl, hq, hl, hw⟩ := hw
  cases r
  obtain ⟨its, rv, p, hz⟩ := I.list hq
  refine assign_lst (I.ok.hd hc) p.isList (by simp [hn, ← hl, rv.length]) hst fun h' hx => ?_
  have I1 : Inv X pins σ H { s with heap := h' } := I.kept (t' := s.toks) fun b o e => hx b o (Nat.ne_of_lt (Heap.lt_size e)) e
  exact h.run pins _ σ H xs _ Q I1 (by simpa using rv) hw
/-- target = a list -/
def sAsgL (tgs : List Tg) (f : Den D) : Den Fl := f.bind fun d => fun m => match d with
  | .lst ds => match tgSets tgs ds m.sl with
    | some sl => .ok .nx { m with sl := sl }
    | none => .bad
  | _ => .bad
theorem ss_asgL {a : Expr} {n k0 : Nat} {fe : Den D} {tpos : Pos} (he : SE cls own X a fe) (hc : X.calm = true) (h : SGs cls own X es tgs) (hl : tgs.length = n) (hn : (assignEach es X.env).length = n := by rfl) (hst : (assignEach es X.env).findIdx? (·.1) = none := by rfl)
    (hs : swapsWithSole [.Tuple es k0 tpos] a pos.line X.env = pure false := by rfl) (hw : swappedStores [.Tuple es k0 tpos] a X.env = pure none := by rfl)
    (h1 : (assignEach [.Tuple es k0 tpos] X.env).map (·.2) = [assign (.Tuple es k0 tpos) X.env] := by rfl) : SS cls own X (.Assign [.Tuple es k0 tpos] a pos) (sAsgL tgs fe) := by
  refine ps_imp (ps_asg he (pg_tupL (n := n) hc h hn hst) hs hw h1) fun E σ H q => ?_
  obtain ⟨G, al, m, fl, m', r, e, k⟩ := q
  obtain ⟨d, m1, e1, e⟩ := bind_ok e
  refine ⟨G, al, m, d, m1, r, e1, fun G1 al1 v H1 ev1 r1 dv => ?_⟩
  split at e
  · next ds =>
    split at e
    · next sl e2 =>
      cases e
      cases dv with
      | lst g1 g2 =>
        exact ⟨_, _, rfl, .inl (.inl (r1.zh _ _ g1)), by rw [g2.length, tgSets_len e2, hl], G1, al1, m1, ds, sl, r1, g2, e2, fun σ' r' _ => k G1 al1 σ' H1 ev1 r'⟩
    · cases e
  · cases e
@[simp] theorem sAsgL_at {m : MS} {f : Den D} : sAsgL tgs f m = match f m with
  | .ok d m1 => match d with
    | .lst ds => match tgSets tgs ds m1.sl with
      | some sl => .ok .nx ⟨sl, m1.st⟩
      | none => .bad
    | _ => .bad
  | .bad => .bad := by
  simp only [sAsgL, Den.bind]
  cases f m with
  | bad => rfl
  | ok d m1 => cases d <;> rfl
end
end MI

namespace MI
open PySem PySem.Spec L2

section
variable {X : Cx}
theorem pairs_ofU {pins : List (Addr × Obj)} {σ : St} {H : Hp} {s : Shared} (I : Inv X pins σ H s) : ∀ {ps : List Addr} {kvs : List (Key × V)}, Paired (fun p kv => SqT X.K H p [kV kv.1, kv.2]) ps kvs →
    ∃ (prs : List (Key × Value)) (kps : List (Value × Value)), KV kvs prs ∧ prs.length = ps.length ∧ kps.length = ps.length ∧ ∀ (j : Nat) (k v : Value), kps[j]? = some (k, v) → ∃ (b : Addr) (q : Key), ps[j]? = some b ∧ PyProof.Rows.IsTup s.heap b #[k, v] ∧ prs[j]? = some (q, v) ∧ keyIs q k = true
  | _, _, .nil => ⟨[], [], .nil, rfl, rfl, fun j k v e => by simp at e⟩
  | _, _, .cons (a := p) (b := kv) h t => by
    obtain ⟨prs, kps, r, l1, l2, hp⟩ := pairs_ofU I t
    obtain ⟨its, rv, ht, _⟩ := I.tuple h
    obtain ⟨u, y, rfl, ru, ry⟩ := vals2 rv
    refine ⟨(kv.1, y) :: prs, (u, y) :: kps, .cons ⟨rfl, ry⟩ r, by rw [List.length_cons, List.length_cons, l1], by rw [List.length_cons, List.length_cons, l2], fun j k v e => ?_⟩
    cases j with
    | zero =>
      cases (show (u, y) = (k, v) from Option.some.inj e)
      exact ⟨p, kv.1, rfl, ht, rfl, kV_is (P := X.prog) (w := X.w) ru⟩
    | succ j =>
      obtain ⟨b, q, e1, e2, e3, e4⟩ := hp j k v (by simpa using e)
      exact ⟨b, q, by simpa using e1, e2, by simpa using e3, e4⟩
theorem sqn_plain {pins : List (Addr × Obj)} {σ : St} {H : Hp} {s : Shared} {a : Addr} {xs : List V} (I : Inv X pins σ H s) (h : SqN X.K H a xs) : ∃ its, Vals xs its ∧ PlainSeq "tuple" s.heap a its.toArray ∧ xs.length ≤ sizeLine := by
  obtain ⟨its, rv, ⟨o, ho, hc, n, hd⟩, hz⟩ := I.tuple h.t
  obtain ⟨_, h2⟩ := tyT_is I (x := .ref a) (v := .ref a) rfl ⟨a, xs, rfl, h⟩
  obtain ⟨ob, e, dn⟩ := h2 a rfl
  rw [ho] at e; cases e
  exact ⟨its, rv, ⟨o, n, ho, hc, dn, hd⟩, hz⟩
def rDictT (K : PySem.W.Frag) : List V → Hp → VK → Prop := fun xs H Q => ∃ (a : Addr) (ps : List Addr) (kvs : List (Key × V)), xs = [.ref a] ∧ SqN K H a (ps.map V.ref) ∧ Paired (fun p kv => SqT K H p [kV kv.1, kv.2]) ps kvs ∧
    ∀ p, H p = none → Q (.ref p) (upd H p (.dK (mergeK [] kvs)))
theorem cr_dictT (hcalm : X.calm = true) : CallR X (.type "dict") (rDictT X.K) := by
  intro pins s σ H xs us Q I r q
  obtain ⟨a, ps, kvs, rfl, hq, hp, q⟩ := q
  obtain ⟨u, rfl, rx⟩ := vals1 r
  cases rx
  obtain ⟨its, rv, pl, hz⟩ := sqn_plain I hq
  have ei := L2.refs_at rv
  subst ei
  rw [List.length_map] at hz
  obtain ⟨prs, kps, rel, l1, l2, hpr⟩ := pairs_ofU I hp
  have P := PairArg.tuple (prog := X.prog) (w := X.w) a (ps.map Value.ref).toArray (fun j => ps.getD j 0) kps
  refine PySem.call_dict_pairs (knd := mixKind X.prog X.w) (kvs := prs) P (I.ok.hd hcalm) ⟨pl, by simp [l2], fun j k v e => ?_⟩ ⟨by rw [l1, l2], fun i k v e => ?_⟩ (by rw [l2]; exact hz) fun h' tk hd' k => ?_
  · obtain ⟨b, qk, e1, e2, _, _⟩ := hpr j k v e
    have g : ps.getD j 0 = b := by rw [List.getD_eq_getElem?_getD, e1]; rfl
    exact ⟨by simp [e1], by show PairAt s.heap (ps.getD j 0) k v; rw [g]; exact .inl e2⟩
  · obtain ⟨b, qk, _, _, e3, e4⟩ := hpr i k v e
    exact ⟨qk, e3, e4⟩
  · have hm : (s.heap.objs.size == sysModules) = false := beq_eq_false_iff_ne.mpr (Nat.ne_of_gt I.big)
    have hlen : (mergeK [] kvs).length ≤ sizeLine := by
      have := length_mergeK kvs []
      rw [List.length_nil, Nat.zero_add, rel.length, l1] at this
      omega
    exact ⟨.ref s.heap.objs.size, upd H s.heap.objs.size (.dK (mergeK [] kvs)), I.laid (t' := tk) (fun b o e => k b o (by simp) e) (Nat.le_refl _) (show ObjOk X.prog X.w _ _ _ (.dK (mergeK [] kvs)) from ⟨hlen, hm, merged [] prs, KV.merge rel .nil, hd'⟩), rfl, q _ (I.hok.fresh (Nat.le_refl _))⟩
end
def gDictA : List D → Option D
  | [.lst ds] => (pairsD ds).map fun ps => .dic (ps.foldl (fun acc q => dput acc q.1 q.2) [])
  | [.tup ds] => (pairsD ds).map fun ps => .dic (ps.foldl (fun acc q => dput acc q.1 q.2) [])
  | _ => none
theorem cr_dictA {X : Cx} (hc : X.calm = true) : CallR X (.type "dict") (cOr (rDictP X.K) (rDictT X.K)) := callR_or (cr_dictP hc) (cr_dictT hc)
theorem ok_dictA {K : KX} {cls : Nat → Addr} {own : Nat → Bool} : FnOkF K cls own (cOr (rDictP K.K) (rDictT K.K)) gDictA := by
  intro G al m σ H xs da d Q r hx e k
  unfold gDictA at e
  split at e
  · next ds => exact .inl (ok_dictP G al m σ H xs [.lst ds] d Q r hx e k)
  · next ds =>
    cases q : pairsD ds with
    | none => rw [q] at e; cases e
    | some ps =>
      rw [q] at e; cases e
      obtain ⟨x, rfl, hc⟩ := hx.one
      obtain ⟨a, us, rfl, h1, r1⟩ := hc.tup
      obtain ⟨as, kvs, rfl, i2, i3, i4⟩ := MI.pairs_of r.zh r1 q
      refine .inr ⟨a, as, kvs, rfl, Same.tupN r.zh h1, i2, fun p hp => ?_⟩
      exact k G al p _ _ .refl (r.fresh hp) upd_same (r.hst.nog hp) (fold_K (acc := []) (ac := []) i3 i4 rfl .nil)
  · cases e
end MI

namespace MI
open PySem PySem.Spec L2

/-! ### comprehensions with a test -/
theorem lc_fm {vs : List Nat} {tg : Tg} {tt : Den Bool} {te : Den D} {w : List (Option D)} {st : Sto} {c : D → Bool} {g : D → D} : ∀ {ds : List D},
    (∀ d ∈ ds, ∃ S, tgSet tg d w = some S ∧ tt ⟨S, st⟩ = .ok (c d) ⟨S, st⟩ ∧ (c d = true → te ⟨S, st⟩ = .ok (g d) ⟨S, st⟩) ∧ wipeM S vs = w) → ∀ sl, wipeM sl vs = w →
    ∃ last, lcLoop vs tg tt te ds ⟨sl, st⟩ = .ok ((ds.filter c).map g) ⟨last, st⟩ ∧ wipeM last vs = w
  | [], _, sl, hw => ⟨sl, rfl, hw⟩
  | d :: ds, h, sl, hw => by
    obtain ⟨S, e1, e2, e3, e4⟩ := h d (List.mem_cons_self ..)
    obtain ⟨last, e5, e6⟩ := lc_fm (ds := ds) (fun x hx => h x (List.mem_cons_of_mem _ hx)) S e4
    refine ⟨last, ?_, e6⟩
    rw [lcLoop]
    cases hc : c d with
    | true =>
      rw [hc] at e2
      simp only [hw, e1, e2, e3 hc, e5, List.filter_cons, hc, if_true, List.map_cons]
    | false =>
      rw [hc] at e2
      simp only [hw, e1, e2, e5, List.filter_cons, hc]
      rfl
theorem eLc_fm {src : Den (List D)} {vs : List Nat} {tg : Tg} {tt : Den Bool} {te : Den D} {m : MS} {ds : List D} {c : D → Bool} {g : D → D} (hs : src m = .ok ds m) (hf : ds.length ≤ 16777216)
    (h : ∀ d ∈ ds, ∃ S, tgSet tg d (wipeM m.sl vs) = some S ∧ tt ⟨S, m.st⟩ = .ok (c d) ⟨S, m.st⟩ ∧ (c d = true → te ⟨S, m.st⟩ = .ok (g d) ⟨S, m.st⟩) ∧ wipeM S vs = wipeM m.sl vs) :
    eLc src vs tg tt te m = .ok (.lst ((ds.filter c).map g)) m := by
  obtain ⟨last, e1, e2⟩ := lc_fm h m.sl rfl
  have le := List.length_filter_le c ds
  have fit : fitL (((ds.filter c).map g).length) = true := by rw [List.length_map]; unfold fitL sizeLine; exact decide_eq_true (by omega)
  unfold eLc Den.bind
  rw [hs]
  show (match lcLoop vs tg tt te ds m with
    | .ok ys m' => if fitL ys.length then R.ok (D.lst ys) { m' with sl := backM m.sl m'.sl vs } else .bad
    | .bad => .bad) = _
  rw [show m = ⟨m.sl, m.st⟩ from rfl, e1]
  simp only [fit, if_true, back_wipe e2]
/-- .. over typed things -/
theorem eLc_ty {α : Type} {enc : α → D} {src : Den (List D)} {vs : List Nat} {tg : Tg} {tt : Den Bool} {te : Den D} {m : MS} {xs : List α} {f : α → Option D} (hs : src m = .ok (xs.map enc) m) (hf : xs.length ≤ 16777216)
    (h : ∀ x ∈ xs, ∃ S, tgSet tg (enc x) (wipeM m.sl vs) = some S ∧ tt ⟨S, m.st⟩ = .ok (f x).isSome ⟨S, m.st⟩ ∧ (∀ y, f x = some y → te ⟨S, m.st⟩ = .ok y ⟨S, m.st⟩) ∧ wipeM S vs = wipeM m.sl vs) :
    eLc src vs tg tt te m = .ok (.lst (xs.filterMap f)) m := by
  have go : ∀ {ys : List α}, (∀ x ∈ ys, ∃ S, tgSet tg (enc x) (wipeM m.sl vs) = some S ∧ tt ⟨S, m.st⟩ = .ok (f x).isSome ⟨S, m.st⟩ ∧ (∀ y, f x = some y → te ⟨S, m.st⟩ = .ok y ⟨S, m.st⟩) ∧ wipeM S vs = wipeM m.sl vs) →
      ∀ sl, wipeM sl vs = wipeM m.sl vs → ∃ last, lcLoop vs tg tt te (ys.map enc) ⟨sl, m.st⟩ = .ok (ys.filterMap f) ⟨last, m.st⟩ ∧ wipeM last vs = wipeM m.sl vs := by
    intro ys
    induction ys with
    | nil => intro _ sl hw; exact ⟨sl, rfl, hw⟩
    | cons x ys ih =>
      intro h sl hw
      obtain ⟨S, e1, e2, e3, e4⟩ := h x (List.mem_cons_self ..)
      obtain ⟨last, e5, e6⟩ := ih (fun z hz => h z (List.mem_cons_of_mem _ hz)) S e4
      refine ⟨last, ?_, e6⟩
      rw [List.map_cons, lcLoop]
      cases hc : f x with
      | some y =>
        rw [hc] at e2
        simp only [Option.isSome_some] at e2
        simp only [hw, e1, e2, e3 y hc, e5, List.filterMap_cons, hc]
      | none =>
        rw [hc] at e2
        simp only [Option.isSome_none] at e2
        simp only [hw, e1, e2, e5, List.filterMap_cons, hc]
  obtain ⟨last, e1, e2⟩ := go h m.sl rfl
  have le : (xs.filterMap f).length ≤ xs.length := List.length_filterMap_le f xs
  have fit : fitL ((xs.filterMap f).length) = true := by unfold fitL sizeLine; exact decide_eq_true (by omega)
  unfold eLc Den.bind
  rw [hs]
  show (match lcLoop vs tg tt te (xs.map enc) m with
    | .ok ys m' => if fitL ys.length then R.ok (D.lst ys) { m' with sl := backM m.sl m'.sl vs } else .bad
    | .bad => .bad) = _
  rw [show m = ⟨m.sl, m.st⟩ from rfl, e1]
  simp only [fit, if_true, back_wipe e2]
/-! ### dicts by whole numbers -/
/-- the value at a number -/
def lkI {α : Type} (l : Int) : List (Int × α) → Option α
  | [] => none
  | (k, v) :: r => if k = l then some v else lkI l r
abbrev dcI {α : Type} (enc : α → D) (xs : List (Int × α)) : List (D × D) := xs.map fun q => (.int q.1, enc q.2)
theorem kEq_int {i j : Int} : kEq (.int i) (.int j) = decide (i = j) := by
  have := kEq_kD (.inl i) (.inl j)
  simpa [kD] using this
theorem dget_I {α : Type} {enc : α → D} {l : Int} : ∀ {xs : List (Int × α)}, dget (dcI enc xs) (.int l) = (lkI l xs).map enc
  | [] => rfl
  | (k, v) :: r => by
    show (if kEq (.int k) (.int l) then some (enc v) else dget (dcI enc r) (.int l)) = _
    rw [kEq_int, lkI, dget_I]
    by_cases h : k = l
    · simp [h]
    · simp [h]
theorem isKey_int {i : Int} : isKey (.int i) = true := rfl
theorem in_dicI {α : Type} {enc : α → D} {l : Int} {xs : List (Int × α)} : gInA (.int l) (.dic (dcI enc xs)) = some (.bl (lkI l xs).isSome) := by
  show gInD (.int l) (.dic (dcI enc xs)) = _
  unfold gInD gIn
  simp only [isKey_int, if_true, dget_I, Option.map_some]
  cases lkI l xs <;> rfl
theorem ix_dicI {α : Type} {enc : α → D} {l : Int} {xs : List (Int × α)} {v : α} (h : lkI l xs = some v) : gIxA (.dic (dcI enc xs)) (.int l) = some (enc v) := by
  show (if isKey (.int l) then dget (dcI enc xs) (.int l) else none) = _
  rw [isKey_int, if_pos rfl, dget_I, h]; rfl
theorem lkI_none {α : Type} {l : Int} : ∀ {xs : List (Int × α)}, lkI l xs = none ↔ l ∉ xs.map (·.1)
  | [] => by simp [lkI]
  | (k, v) :: r => by
    rw [lkI, List.map_cons, List.mem_cons]
    by_cases h : k = l
    · simp [h]
    · rw [if_neg h, lkI_none (xs := r), not_or]
      exact ⟨fun z => ⟨fun e => h e.symm, z⟩, fun z => z.2⟩
theorem dput_new {α : Type} {enc : α → D} {l : Int} {v : α} {xs : List (Int × α)} (h : l ∉ xs.map (·.1)) : dput (dcI enc xs) (.int l) (enc v) = dcI enc (xs ++ [(l, v)]) := by
  unfold dput
  rw [dget_I, lkI_none.mpr h]
  simp [dcI]
/-- a dict comprehension with unlike keys -/
theorem dc_loop {α β : Type} {enc : α → D} {encV : β → D} {vs : List Nat} {tg : Tg} {tk tv : Den D} {w : List (Option D)} {st : Sto} {k : α → Int} {v : α → β} : ∀ {xs : List α} {acc : List (Int × β)},
    (∀ x ∈ xs, ∃ S, tgSet tg (enc x) w = some S ∧ tk ⟨S, st⟩ = .ok (.int (k x)) ⟨S, st⟩ ∧ tv ⟨S, st⟩ = .ok (encV (v x)) ⟨S, st⟩ ∧ wipeM S vs = w) → (acc.map (·.1) ++ xs.map k).Nodup → acc.length + xs.length ≤ 1000 → ∀ sl, wipeM sl vs = w →
    ∃ last, dcLoop vs tg (.ret true) tk tv (xs.map enc) (dcI encV acc) ⟨sl, st⟩ = .ok (dcI encV (acc ++ xs.map fun x => (k x, v x))) ⟨last, st⟩ ∧ wipeM last vs = w
  | [], acc, _, _, _, sl, hw => ⟨sl, by simp only [List.map_nil, List.append_nil]; rfl, hw⟩
  | x :: xs, acc, h, nd, le, sl, hw => by
    obtain ⟨S, e1, e2, e3, e4⟩ := h x (List.mem_cons_self ..)
    have hk : k x ∉ acc.map (·.1) := by
      rw [List.map_cons] at nd
      intro z
      exact (List.nodup_append.mp nd).2.2 _ z _ (List.mem_cons_self ..) rfl
    obtain ⟨last, e5, e6⟩ := dc_loop (xs := xs) (acc := acc ++ [(k x, v x)]) (fun z hz => h z (List.mem_cons_of_mem _ hz)) (by
      rw [List.map_append, List.append_assoc]; exact nd) (by rw [List.length_append, List.length_singleton]; rw [List.length_cons] at le; omega) S e4
    refine ⟨last, ?_, e6⟩
    rw [List.map_cons, dcLoop]
    have fit : (isKey (.int (k x)) && decide ((dcI encV acc).length < sizeLine)) = true := by
      rw [isKey_int, Bool.true_and, decide_eq_true_eq, List.length_map]
      rw [List.length_cons] at le
      unfold sizeLine; omega
    simp only [hw, e1, ret_at, e2, e3, fit, if_true, dput_new hk, e5]
    rw [List.append_assoc]
    rfl
theorem eDc_ty {α β : Type} {enc : α → D} {encV : β → D} {src : Den (List D)} {vs : List Nat} {tg : Tg} {tk tv : Den D} {m : MS} {xs : List α} {k : α → Int} {v : α → β} (hs : src m = .ok (xs.map enc) m)
    (h : ∀ x ∈ xs, ∃ S, tgSet tg (enc x) (wipeM m.sl vs) = some S ∧ tk ⟨S, m.st⟩ = .ok (.int (k x)) ⟨S, m.st⟩ ∧ tv ⟨S, m.st⟩ = .ok (encV (v x)) ⟨S, m.st⟩ ∧ wipeM S vs = wipeM m.sl vs) (nd : (xs.map k).Nodup) (le : xs.length ≤ 1000) :
    eDc src vs tg (.ret true) tk tv m = .ok (.dic (dcI encV (xs.map fun x => (k x, v x)))) m := by
  obtain ⟨last, e1, e2⟩ := dc_loop (acc := []) h (by simpa using nd) (by simpa using le) m.sl rfl
  unfold eDc Den.bind
  rw [hs]
  show (match dcLoop vs tg (.ret true) tk tv (xs.map enc) [] m with
    | .ok acc m' => R.ok (D.dic acc) { m' with sl := backM m.sl m'.sl vs }
    | .bad => .bad) = _
  have e1 : dcLoop vs tg (.ret true) tk tv (xs.map enc) [] ⟨m.sl, m.st⟩ = _ := e1
  rw [show m = ⟨m.sl, m.st⟩ from rfl, e1]
  simp only [back_wipe e2, List.nil_append]
/-- dict(pairs of numbers), unlike keys -/
theorem pairsD_I {α : Type} {enc : α → D} : ∀ {xs : List (Int × α)}, pairsD (xs.map fun q => .tup [.int q.1, enc q.2]) = some (dcI enc xs)
  | [] => rfl
  | (k, v) :: r => by
    show (if isKey (.int k) then (pairsD (r.map fun q => .tup [.int q.1, enc q.2])).map ((.int k, enc v) :: ·) else none) = _
    rw [isKey_int, if_pos rfl, pairsD_I]; rfl
theorem fold_I {α : Type} {enc : α → D} : ∀ {xs acc : List (Int × α)}, (acc.map (·.1) ++ xs.map (·.1)).Nodup → (dcI enc xs).foldl (fun acc q => dput acc q.1 q.2) (dcI enc acc) = dcI enc (acc ++ xs)
  | [], acc, _ => by simp
  | (k, v) :: r, acc, nd => by
    have hk : k ∉ acc.map (·.1) := fun z => (List.nodup_append.mp nd).2.2 _ z _ (List.mem_cons_self ..) rfl
    show (dcI enc r).foldl _ (dput (dcI enc acc) (.int k) (enc v)) = _
    rw [dput_new hk, fold_I (xs := r) (acc := acc ++ [(k, v)]) (by rw [List.map_append, List.append_assoc]; exact nd), List.append_assoc]
    rfl
theorem dictA_I {α : Type} {enc : α → D} {xs : List (Int × α)} (nd : (xs.map (·.1)).Nodup) : gDictA [.tup (xs.map fun q => .tup [.int q.1, enc q.2])] = some (.dic (dcI enc xs)) ∧ gDictA [.lst (xs.map fun q => .tup [.int q.1, enc q.2])] = some (.dic (dcI enc xs)) := by
  have e : (pairsD (xs.map fun q => .tup [.int q.1, enc q.2])).map (fun ps => D.dic (ps.foldl (fun acc q => dput acc q.1 q.2) [])) = some (.dic (dcI enc xs)) := by
    rw [pairsD_I, Option.map_some]
    have := fold_I (enc := enc) (xs := xs) (acc := []) (by simpa using nd)
    simp only [List.nil_append] at this
    show some (D.dic ((dcI enc xs).foldl (fun acc q => dput acc q.1 q.2) (dcI enc []))) = _
    rw [this]
  exact ⟨e, e⟩
/-! ### the hand -/
def HB (st : Sto) (n N : Nat) : Prop := ∃ g c t, Hand st n g c t ∧ t ≤ (N : Int)
theorem HB.mono {st : Sto} {n N N' : Nat} (h : HB st n N) (hN : N ≤ N') : HB st n N' := by
  obtain ⟨g, c, t, H, ht⟩ := h
  exact ⟨g, c, t, H, by omega⟩
abbrev fTake : Fn := runFn 8 dTake
theorem takeS {st : Sto} {n N : Nat} {many : Int} (h : HB st n N) (hN : N < 2 ^ 40) (h0 : 0 < many) (h1 : many < 2 ^ 40) : ∃ r st', fTake [.obj n, .int many] st = some (.int r, st') ∧ 0 ≤ r ∧ r < many ∧ HB st' n (N + 1) := by
  obtain ⟨g, c, t, H, ht⟩ := h
  have b40 : (2 : Int) ^ 40 = 1099511627776 := by decide
  have c40 : (2 : Nat) ^ 40 = 1099511627776 := by decide
  have b64 : (2 : Int) ^ 64 = 18446744073709551616 := by decide
  obtain ⟨r, g', t', e, r0, r1, ht', H'⟩ := take_ok H (by rw [b64]; rw [c40] at hN; omega) h0 (by rw [b64]; rw [b40] at h1; omega)
  exact ⟨r, _, e, r0, r1, g', c, t', H', by push_cast; omega⟩
theorem ix_tup {ds : List D} {i : Int} (h0 : 0 ≤ i) (h1 : i < ds.length) : gIxA (.tup ds) (.int i) = some (ds[i.toNat]'(by omega)) := by
  show atI ds i = _
  have : ixN ds.length i = some i.toNat := by unfold ixN; rw [if_pos h0, if_pos h1]
  unfold atI
  rw [this]
  exact List.getElem?_eq_getElem _
theorem ix_lst {ds : List D} {i : Int} (h0 : 0 ≤ i) (h1 : i < ds.length) : gIxA (.lst ds) (.int i) = some (ds[i.toNat]'(by omega)) := by
  show atI ds i = _
  have : ixN ds.length i = some i.toNat := by unfold ixN; rw [if_pos h0, if_pos h1]
  unfold atI
  rw [this]
  exact List.getElem?_eq_getElem _
def dPick : Den Fl := sRet (eOp gIxA (hVal (eVar 1)) (hVal (eCallK fTake [.p 0, .p 1] [] (aVals (aCons (hVal (eVar 0)) (aCons (hVal (eFn gLen (aCons (hVal (eVar 1)) (aNil)))) (aNil)))) (aVals (aNil)))))
abbrev fPick : Fn := runFn 2 dPick
theorem pickL {st : Sto} {n N : Nat} {ds : List D} (h : HB st n N) (hN : N < 2 ^ 40) (h0 : 0 < ds.length) (h1 : ds.length ≤ 1000) : ∃ d st', fPick [.obj n, .lst ds] st = some (d, st') ∧ d ∈ ds ∧ HB st' n (N + 1) := by
  have b40 : (2 : Int) ^ 40 = 1099511627776 := by decide
  obtain ⟨r, st1, e1, r0, r1, H1⟩ := takeS (many := (ds.length : Int)) h hN (by omega) (by rw [b40]; omega)
  have ix := ix_lst (ds := ds) r0 r1
  refine ⟨ds[r.toNat]'(by omega), st1, ?_, List.getElem_mem _, H1⟩
  unfold fPick dPick
  generalize fTake = T at e1
  simp [arr, gLen, e1, ix]
theorem pickT {st : Sto} {n N : Nat} {ds : List D} (h : HB st n N) (hN : N < 2 ^ 40) (h0 : 0 < ds.length) (h1 : ds.length ≤ 1000) : ∃ d st', fPick [.obj n, .tup ds] st = some (d, st') ∧ d ∈ ds ∧ HB st' n (N + 1) := by
  have b40 : (2 : Int) ^ 40 = 1099511627776 := by decide
  obtain ⟨r, st1, e1, r0, r1, H1⟩ := takeS (many := (ds.length : Int)) h hN (by omega) (by rw [b40]; omega)
  have ix := ix_tup (ds := ds) r0 r1
  refine ⟨ds[r.toNat]'(by omega), st1, ?_, List.getElem_mem _, H1⟩
  unfold fPick dPick
  generalize fTake = T at e1
  simp [arr, gLen, e1, ix]
end MI

namespace MI
open PySem PySem.Spec L2

/-- a loop, by what is done so far -/
theorem loop_pre {α : Type} {enc : α → D} {tg : Tg} {body : Den Fl} {I : List α → MS → Prop} (full : List α)
    (h : ∀ done x rest, full = done ++ x :: rest → ∀ m, I done m → ∃ sl m2, tgSet tg (enc x) m.sl = some sl ∧ body ⟨sl, m.st⟩ = .ok .nx m2 ∧ I (done ++ [x]) m2) (m : MS) (i : I [] m) :
    ∃ m2, loopD tg body (full.map enc) m = .ok .nx m2 ∧ I full m2 := by
  have go : ∀ (rest done : List α), full = done ++ rest → ∀ m, I done m → ∃ m2, loopD tg body (rest.map enc) m = .ok .nx m2 ∧ I full m2 := by
    intro rest
    induction rest with
    | nil =>
      intro done e m i
      rw [List.append_nil] at e
      subst e
      exact ⟨m, rfl, i⟩
    | cons x rest ih =>
      intro done e m i
      obtain ⟨sl, m2, e1, e2, i2⟩ := h done x rest e m i
      obtain ⟨m3, e3, i3⟩ := ih (done ++ [x]) (by rw [e, List.append_assoc]; rfl) m2 i2
      refine ⟨m3, ?_, i3⟩
      rw [List.map_cons, loopD]
      simp only [e1, e2]
      exact e3
  exact go full [] rfl m i
/-- each with its place -/
def zi {α : Type} (k : Nat) : List α → List (Nat × α)
  | [] => []
  | x :: r => (k, x) :: zi (k + 1) r
theorem zi_len {α : Type} : ∀ {xs : List α} {k : Nat}, (zi k xs).length = xs.length
  | [], _ => rfl
  | x :: r, k => by rw [zi, List.length_cons, List.length_cons, zi_len]
theorem enum_zi {α : Type} {enc : α → D} : ∀ {xs : List α} {k : Nat}, enumD (k : Int) (xs.map enc) = (zi k xs).map fun p => .tup [.int (p.1 : Nat), enc p.2]
  | [], _ => rfl
  | x :: r, k => by
    rw [List.map_cons, enumD, zi, List.map_cons]
    have := enum_zi (enc := enc) (xs := r) (k := k + 1)
    rw [← this]
    rfl
theorem zi_mem {α : Type} : ∀ {xs : List α} {k : Nat} {p : Nat × α}, p ∈ zi k xs → k ≤ p.1 ∧ xs[p.1 - k]? = some p.2
  | [], _, _, h => by cases h
  | x :: r, k, p, h => by
    rcases List.mem_cons.mp h with z | z
    · subst z; exact ⟨Nat.le_refl _, by simp⟩
    · obtain ⟨h1, h2⟩ := zi_mem z
      refine ⟨by omega, ?_⟩
      have e : p.1 - k = (p.1 - (k + 1)) + 1 := by omega
      rw [e, List.getElem?_cons_succ]; exact h2
theorem range_D : ∀ (n : Nat) (lo : Int), rangeD lo n = (List.range n).map fun k => .int (lo + (k : Nat))
  | 0, _ => rfl
  | n + 1, lo => by
    rw [rangeD, range_D n (lo + 1), List.range_succ_eq_map, List.map_cons, List.map_map]
    congr 1
    · simp
    · apply List.map_congr_left
      intro k _
      show D.int _ = D.int _
      congr 1
      simp only [Nat.succ_eq_add_one]
      push_cast
      omega
theorem range_D0 (n : Nat) : rangeD 0 n = (List.range n).map fun k => .int (k : Nat) := by
  rw [range_D]
  apply List.map_congr_left
  intro k _
  simp
/-! ### pairs of numbers, parts, matches -/
abbrev Ps := List (Int × Int)
abbrev qD (q : Int × Int) : D := .tup [.int q.1, .int q.2]
abbrev psD (ps : Ps) : D := .tup (ps.map qD)
abbrev Mat := List (Int × Int × Ps)
abbrev ptD (p : Int × Int × Ps) : D := .tup [.int p.1, .int p.2.1, psD p.2.2]
abbrev mtD (x : Mat) : D := .tup (x.map ptD)
theorem inj_qD {x y : Int × Int} (h : qD x = qD y) : x = y := by
  obtain ⟨x1, x2⟩ := x
  obtain ⟨y1, y2⟩ := y
  simpa [qD] using h
theorem inj_ptD {p q : Int × Int × Ps} (e : ptD p = ptD q) : p = q := by
  obtain ⟨a, b, c⟩ := p
  obtain ⟨a', b', c'⟩ := q
  simp only [ptD, psD, D.tup.injEq, List.cons.injEq, D.int.injEq, and_true] at e
  obtain ⟨rfl, rfl, e⟩ := e
  rw [(List.map_inj_right (fun x y h => inj_qD h)).mp e]
theorem inj_mtD {x y : Mat} (e : mtD x = mtD y) : x = y := by
  simp only [mtD, D.tup.injEq] at e
  exact (List.map_inj_right (fun x y h => inj_ptD h)).mp e
/-- numbers of a sane size -/
def szI (i : Int) : Prop := -(10 ^ 18) < i ∧ i < 10 ^ 18
def szQ (q : Int × Int) : Prop := szI q.1 ∧ szI q.2
theorem rzI {i : Int} (h : szI i) {n b : Nat} : RN n b (.int i) := by
  have e : (2 : Int) ^ 200 = 1606938044258990275541962092341162602522202993782792835301376 := by decide
  have e2 : (10 : Int) ^ 18 = 1000000000000000000 := by decide
  unfold szI at h
  rw [e2] at h
  exact RN.int (by rw [e]; omega) (by rw [e]; omega)
theorem rzQ {q : Int × Int} (h : szQ q) : RN 1 2 (qD q) := RN.tup (n := 0) (b := 0) (l := 2) (fun d hd => by
  simp only [List.mem_cons, List.not_mem_nil, or_false] at hd
  rcases hd with rfl | rfl
  · exact rzI h.1
  · exact rzI h.2) (by simp)
theorem rzP {ps : Ps} {l : Nat} (h : ∀ q ∈ ps, szQ q) (hl : ps.length ≤ l) : RN 2 (3 * l) (psD ps) := RN.tup (n := 1) (b := 2) (fun d hd => by
  obtain ⟨q, hq, rfl⟩ := List.mem_map.mp hd
  exact rzQ (h q hq)) (by simpa using hl)
def szP (l : Nat) (p : Int × Int × Ps) : Prop := szI p.1 ∧ szI p.2.1 ∧ p.2.2.length ≤ l ∧ ∀ q ∈ p.2.2, szQ q
theorem rzT {p : Int × Int × Ps} {l : Nat} (h : szP l p) : RN 3 ((3 * l + 1) * 3) (ptD p) := RN.tup (n := 2) (b := 3 * l) (l := 3) (fun d hd => by
  simp only [List.mem_cons, List.not_mem_nil, or_false] at hd
  rcases hd with rfl | rfl | rfl
  · exact rzI h.1
  · exact rzI h.2.1
  · exact rzP h.2.2.2 h.2.2.1) (by simp)
def szM (l : Nat) (x : Mat) : Prop := x.length ≤ l ∧ ∀ p ∈ x, szP l p
theorem rzM {x : Mat} {l : Nat} (h : szM l x) : RN 4 (((3 * l + 1) * 3 + 1) * l) (mtD x) := RN.tup (n := 3) (b := (3 * l + 1) * 3) (l := l) (fun d hd => by
  obtain ⟨p, hp, rfl⟩ := List.mem_map.mp hd
  exact rzT (h.2 p hp)) (by simpa using h.1)
/-! ### names in a row of names -/
theorem in_ps {q : Int × Int} {ps : Ps} (h : ∀ z ∈ ps, szQ z) (hq : szQ q) (hl : ps.length ≤ 100) : gInA (qD q) (psD ps) = some (.bl (decide (q ∈ ps))) := by
  obtain ⟨c, e, _, hc⟩ := gIn_tup (rzQ hq) (rzP h hl)
  rw [e]
  congr 2
  rw [Bool.eq_iff_iff, hc, decide_eq_true_eq, List.mem_map]
  constructor
  · rintro ⟨z, hz, e⟩
    rw [← inj_qD e]; exact hz
  · intro hz
    exact ⟨q, hz, rfl⟩
/-- where it first stands -/
def ixQ (q : Int × Int) : Ps → Nat
  | [] => 0
  | x :: r => if x = q then 0 else ixQ q r + 1
theorem toPy_pr (q : Int × Int) : toPy (qD q) = some (.tuple [.int q.1, .int q.2]) := rfl
theorem toPys_ps : ∀ ps : Ps, toPys (ps.map qD) = some (ps.map fun q => .tuple [.int q.1, .int q.2])
  | [] => rfl
  | q :: r => by rw [List.map_cons, toPys, toPy_pr, toPys_ps r]; rfl
theorem eqv_pr (a b : Int × Int) : PyData.eqv (.tuple [.int a.1, .int a.2]) (.tuple [.int b.1, .int b.2]) = decide (a = b) := by
  have := eqv_eq (p := .tuple [.int a.1, .int a.2]) (q := .tuple [.int b.1, .int b.2]) rfl rfl
  rw [Bool.eq_iff_iff, this, decide_eq_true_eq]
  constructor
  · intro h
    obtain ⟨a1, a2⟩ := a
    obtain ⟨b1, b2⟩ := b
    simpa using h
  · rintro rfl; rfl
theorem idx_ps {q : Int × Int} : ∀ {ps : Ps}, q ∈ ps → idxP (.tuple [.int q.1, .int q.2]) (ps.map fun q => .tuple [.int q.1, .int q.2]) = some (ixQ q ps)
  | x :: r, h => by
    rw [List.map_cons, idxP, eqv_pr, ixQ]
    by_cases e : x = q
    · simp [e]
    · have : q ∈ r := (List.mem_cons.mp h).resolve_left fun z => e z.symm
      rw [idx_ps this]
      simp [e]
theorem index_ps {q : Int × Int} {ps : Ps} (h : ∀ z ∈ ps, szQ z) (hl : ps.length ≤ 100) (hq : q ∈ ps) : gIndex (psD ps) (qD q) = some (.int (ixQ q ps : Nat)) := by
  obtain ⟨p, e1, f1⟩ := (rzP h hl).rd.okE
  obtain ⟨p2, e2, f2⟩ := (rzQ (h q hq)).rd.okE
  rw [toPy_pr] at f2
  cases f2
  have f1 : (toPys (ps.map qD)).map PyData.tuple = some p := f1
  rw [toPys_ps] at f1
  cases f1
  unfold gIndex
  simp only [e1, e2, idx_ps hq, Option.map_some]
section
variable {m : MS} {f : Den D} {hs : Den (List Hd)} {h h2 : Den Hd} {i : Nat} {G : List D → List D → Option (D × List D)} {l : Den (List D)} {s : Den Fl}
@[simp] theorem eIndex_at : eIndex f hs m = match f m with
  | .ok o m1 => match o with
    | .tup ds => match hs m1 with
      | .ok [x] m2 => match look x m2 with
        | some d => match gIndex (.tup ds) d with
          | some z => .ok z m2
          | none => .bad
        | none => .bad
      | _ => .bad
    | _ => .bad
  | .bad => .bad := by
  simp only [eIndex, Den.bind]
  cases f m with
  | bad => rfl
  | ok o m1 => cases o <;> rfl
@[simp] theorem iEnum_at : iEnum hs m = match hs m with
  | .ok xs m1 => match looksV xs with
    | some [.lst ds] => .ok (enumD 0 ds) m1
    | some [.tup ds] => .ok (enumD 0 ds) m1
    | _ => .bad
  | .bad => .bad := by
  simp only [iEnum, Den.bind]
  cases hs m with
  | bad => rfl
  | ok xs m1 => rfl
@[simp] theorem eMut_at : eMut i G l m = match m.sl[i]? with
  | some (some (.lst _)) => match l m with
    | .ok xs m1 => match m1.sl[i]? with
      | some (some (.lst ds)) => match G ds xs with
        | some (z, ds') => .ok z ⟨m1.sl.set i (some (.lst ds')), m1.st⟩
        | none => .bad
      | _ => .bad
    | .bad => .bad
  | _ => .bad := by unfold eMut; rfl
@[simp] theorem sFrz_at : sFrz i s m = match s m with
  | .ok fl m1 => .ok fl ⟨m1.sl.set i none, m1.st⟩
  | .bad => .bad := by unfold sFrz; rfl
@[simp] theorem sPut_at : sPut i h f m = match f m with
  | .ok v m1 => match m1.sl[i]? with
    | some (some _) => match h m1 with
      | .ok hk m2 => match m2.sl[i]?, look hk m2 with
        | some (some d), some k => match gSet d k v with
          | some d' => .ok .nx ⟨m2.sl.set i (some d'), m2.st⟩
          | none => .bad
        | _, _ => .bad
      | .bad => .bad
    | _ => .bad
  | .bad => .bad := by
  simp only [sPut, Den.bind]
  cases f m with
  | bad => rfl
  | ok v m1 => rfl
theorem gAppend_ok {ds : List D} {x : D} (h : ds.length ≤ 1000) : gAppend ds [x] = some (.non, ds ++ [x]) := by
  show (if ds.length < sizeLine then some (D.non, ds ++ [x]) else none) = _
  rw [if_pos (by unfold sizeLine; omega)]
theorem gSet_newI {α : Type} {enc : α → D} {l : Int} {v : α} {xs : List (Int × α)} (hl : xs.length ≤ 1000) (h : l ∉ xs.map (·.1)) : gSet (.dic (dcI enc xs)) (.int l) (enc v) = some (.dic (dcI enc (xs ++ [(l, v)]))) := by
  show (if isKey (.int l) && decide ((dcI enc xs).length < sizeLine) then some (D.dic (dput (dcI enc xs) (.int l) (enc v))) else none) = _
  have : (dcI enc xs).length < sizeLine := by rw [List.length_map]; unfold sizeLine; omega
  rw [isKey_int, decide_eq_true this, dput_new h]
  rfl
end
/-- a comprehension over typed things, all of them -/
theorem eLc_tm {α : Type} {enc : α → D} {src : Den (List D)} {vs : List Nat} {tg : Tg} {tt : Den Bool} {te : Den D} {m : MS} {xs : List α} {g : α → D} (hs : src m = .ok (xs.map enc) m) (hf : xs.length ≤ 16777216)
    (h : ∀ x ∈ xs, ∃ S, tgSet tg (enc x) (wipeM m.sl vs) = some S ∧ tt ⟨S, m.st⟩ = .ok true ⟨S, m.st⟩ ∧ te ⟨S, m.st⟩ = .ok (g x) ⟨S, m.st⟩ ∧ wipeM S vs = wipeM m.sl vs) :
    eLc src vs tg tt te m = .ok (.lst (xs.map g)) m := by
  have := eLc_ty (enc := enc) (src := src) (vs := vs) (tg := tg) (tt := tt) (te := te) (m := m) (xs := xs) (f := fun x => some (g x)) hs hf (fun x hx => by
    obtain ⟨S, a, b, c, d⟩ := h x hx
    exact ⟨S, a, b, fun y hy => by cases hy; exact c, d⟩)
  rw [this]
  congr 2
  rw [← List.filterMap_eq_map]
  rfl
theorem fit_small {n : Nat} (h : n ≤ 1000) : fitL n = true := by unfold fitL sizeLine; exact decide_eq_true (by omega)
theorem gAdd_int {i j : Int} : gAdd (.int i) (.int j) = some (.int (i + j)) := rfl
theorem ge_int {i j : Int} : gEq (.int i) (.int j) = some (.bl (i == j)) := rfl
theorem gn_int {i j : Int} : gNe (.int i) (.int j) = some (.bl (!(i == j))) := rfl
theorem mul_sm {i j : Int} (h1 : -(10 ^ 20) < i) (h2 : i < 10 ^ 20) (h3 : -(10 ^ 20) < j) (h4 : j < 10 ^ 20) : gMul (.int i) (.int j) = some (.int (i * j)) := by
  have e : (2 : Int) ^ 200 = 1606938044258990275541962092341162602522202993782792835301376 := by decide
  have e2 : (10 : Int) ^ 20 = 100000000000000000000 := by decide
  rw [e2] at h1 h2 h3 h4
  exact gMul_ok (by rw [e]; omega) (by rw [e]; omega) (by rw [e]; omega) (by rw [e]; omega)
end MI

namespace MI
open PySem PySem.Spec L2

def gPopAt : List D → List D → Option (D × List D)
  | ds, [.int i] => if 0 ≤ i ∧ i < 2 ^ 63 then (match ds[i.toNat]? with
    | some x => some (x, ds.eraseIdx i.toNat)
    | none => none) else none
  | _, _ => none
theorem DVs.eraseIdx {K : KX} {Z : Hp} {al : List Addr} : ∀ {xs : List V} {ds : List D}, DVs K Z al xs ds → ∀ k, DVs K Z al (xs.eraseIdx k) (ds.eraseIdx k)
  | _, _, .nil, _ => .nil
  | _, _, .cons d h, 0 => h
  | _, _, .cons d h, k + 1 => .cons d (DVs.eraseIdx h k)
section
variable {cls : Nat → Addr} {own : Nat → Bool} {X : Cx} {a b : Expr} {fa fb : Den Hd} {pos apos cpos npos : Pos} {es : List Expr} {fs : Den (List Hd)} {i : Nat} {x : Str}
/-- found.pop(e) -/
theorem se_popAt (hN : X.N[i]? = some x) (hv : Vis X.env.scope x) (ho : own i = true) (ha : SHs cls own X (a :: es) fs)
    (hd : (x == ("__debug__" : Str)) = false := by decide) (hcd : (x == ("__classdict__" : Str)) = false := by decide)
    (hbase : attributeBase (.Name x npos) "pop" X.env (eval (.Name x npos) X.env) = eval (.Name x npos) X.env := by rfl)
    (hfew : ((backTo cpos (starEach (a :: es) X.env)).all (fun x => !x.1) && (backToKw cpos (keywordEach [] X.env)).all (fun x => x.1.isSome)
      && decide ((a :: es).length + ([] : List Keyword).length + (if ([] : List Keyword).isEmpty then 0 else 1) < 30)) = true := by rfl)
    (hline : (apos.endLine == cpos.line) = true := by rfl) (hs : starEach (a :: es) X.env = (false, eval a X.env) :: starEach es X.env := by rfl) (hplain : (backTo cpos (starEach es X.env)).any (·.1) = false := by rfl) :
    SE cls own X (.Call (.Attribute (.Name x npos) "pop" apos) (a :: es) [] cpos) (eMut i gPopAt (aVals fs)) := by
  refine pe_imp (pe_bm PySem.F.plainAttrs_list PySem.F.slot_list_pop PySem.F.type_list_pop mt_popAt (pe_var (pos := npos) hN hv hd hcd) ha hbase hfew hline hs hplain) fun σ H Q q => ?_
  obtain ⟨G, al, m, d, m', r, e, k⟩ := q
  obtain ⟨ds0, xs, m1, ds, ds', e0, e1, e2, e3, rfl⟩ := eMut_ok e
  obtain ⟨hs, e1, l⟩ := aVals_ok e1
  obtain ⟨p, us0, s0, _, h0, _⟩ := own_lst r ho e0
  refine ⟨.ref p, s0, .inl ⟨rfl, us0, .inl (.inl h0)⟩, G, al, m, hs, m1, r, e1, fun G1 al1 v H1 ev1 r1 hv1 => ?_⟩
  obtain ⟨p', us, s1, g1, h1, c1⟩ := own_lst r1 ho e2
  rw [s0] at s1; cases s1
  unfold gPopAt at e3
  split at e3
  · next j =>
    split at e3
    · next hf =>
      split at e3
      · next y hy =>
        cases e3
        have dv := looksV_dv hv1 l
        cases dv with
        | cons d1 d2 =>
          cases d2
          cases d1
          obtain ⟨u, hu1, du⟩ := c1.get hy
          obtain ⟨ev2, r2⟩ := r1.write e2 ho s0 g1 (o' := .lst (us.eraseIdx j.toNat)) (d' := .lst (ds.eraseIdx j.toNat)) (c1.eraseIdx _)
          have hlt : j.toNat < us.length := by
            have := List.getElem?_eq_some_iff.mp hu1
            exact this.1
          have hsi : seqIndex? j us.length = some j.toNat := by
            unfold seqIndex?
            have : ¬ j < 0 := by omega
            simp only [this, if_false]
            have h2 : (decide (0 ≤ j) && decide (j < (us.length : Int))) = true := by
              rw [Bool.and_eq_true, decide_eq_true_eq, decide_eq_true_eq]; omega
            rw [if_pos h2]
          exact ⟨p, us, j, j.toNat, u, rfl, rfl, h1, by omega, hf.2, hsi, hu1, k _ _ _ _ (ev1.trans ev2) r2 (du.ev ev2)⟩
      · cases e3
    · cases e3
  · cases e3
end
end MI

namespace MI
open PySem PySem.Spec L2

def strs? : List D → Option (List Str)
  | [] => some []
  | .str z :: r => (strs? r).map (z :: ·)
  | _ => none
theorem strs_of {K : KX} {Z : Hp} {al : List Addr} : ∀ {ds : List D} {xs : List V} {ys : List Str}, DVs K Z al xs ds → strs? ds = some ys → xs = ys.map V.str
  | _, _, _, .nil, e => by cases e; rfl
  | _ :: r, _, _, .cons d h, e => by
    cases d with
    | str z =>
      unfold strs? at e
      cases e2 : strs? r with
      | none => rw [e2] at e; cases e
      | some zs =>
        rw [e2] at e; cases e
        rw [strs_of h e2]; rfl
    | _ => cases e
def gJoin (a b : D) : Option D := match a, b with
  | .str z, .lst ds => match strs? ds with
    | some ys => if (ys.map (·.length)).sum + ys.length * z.length ≤ 16777216 then some (.str (Txt.join z ys)) else none
    | none => none
  | _, _ => none
/-- sep.join(e) -/
def eJoin (fo fe : Den D) : Den D := fo.bind fun o => fun m0 => match o with
  | .str z => match fe m0 with
    | .ok x m => match gJoin (.str z) x with
      | some y => .ok y m
      | none => .bad
    | _ => .bad
  | _ => .bad
section
variable {cls : Nat → Addr} {own : Nat → Bool} {X : Cx} {o a : Expr} {apos cpos : Pos} {fo fe : Den D}
theorem se_join (ho : SE cls own X o fo) (ha : SE cls own X a fe) (hs : starEach [a] X.env = [(false, eval a X.env)] := by rfl) (hbase : attributeBase o "join" X.env (eval o X.env) = eval o X.env := by rfl) (hline : (apos.endLine == cpos.line) = true := by rfl) :
    SE cls own X (.Call (.Attribute o "join" apos) [a] [] cpos) (eJoin fo fe) := by
  refine pe_imp (pe_join ho ha hs hbase hline) fun σ H Q q => ?_
  obtain ⟨G, al, m, d, m', r, e, k⟩ := q
  obtain ⟨dt, m0, e0, e⟩ := bind_ok e
  split at e
  case h_2 => cases e
  next z =>
  split at e
  case h_2 => cases e
  next x m1 e1 =>
  split at e
  case h_2 => cases e
  next y gz =>
  cases e
  refine ⟨G, al, m, _, m0, r, e0, fun G0 al0 v H0 ev0 r0 dv => ?_⟩
  cases dv
  refine ⟨⟨_, rfl⟩, G0, al0, m0, _, _, r0, e1, fun G1 al1 u H1 ev1 r1 hv => ?_⟩
  unfold gJoin at gz
  split at gz
  case h_2 => cases gz
  next z' ds q2 =>
  cases q2
  split at gz
  case h_2 => cases gz
  next ys qs =>
  split at gz
  case isFalse => cases gz
  next hf =>
  cases gz
  cases hv with
  | lst h1 h2 =>
    have := strs_of h2 qs
    subst this
    exact ⟨_, _, ys, rfl, rfl, .inl (.inl (.inl (r1.zh _ _ h1))), hf, k G1 al1 _ H1 (ev0.trans ev1) r1 (.str _)⟩
end
end MI

namespace MI
open PySem PySem.Spec L2

section
variable {P : Program} {w : World} {A : Around} {E : Value → Shared → Prop} {s : Shared}
/-- set(l), l a list of whole numbers -/
theorem set_of_lst {l : Addr} {its : Array Value} (ns : List Int) {Q : Value → Shared → Prop} (hh : A.handled = none) (hl : s.heap.IsList l its) (hit : PyProof.Rows.IntsAre its.toList ns) (few : ns.length + 1 < scanBound)
    (h : ∀ (h' : Heap) (tk c : Nat), SetR w h' s.heap.objs.size (fun j => decide (j ∈ ns)) c → c ≤ ns.length → (∀ b o, s.heap.get? b = some o → h'.get? b = some o) → Q (.ref s.heap.objs.size) { s with heap := h', toks := tk }) :
    wpAny (model P w) A (call (.type "set") [.ref l]) Q E s := by
  have size : its.size = ns.length := by
    have q := PyProof.Rows.IntsAre.length hit
    rwa [Array.length_toList] at q
  have cs := F.called_set
  obtain ⟨c, tl, hmro⟩ := cs.mro
  have m1 := cs.made
  have m2 := cs.sub
  refine wpAny_call (codeAny_of_tree ?_)
  show wpAny _ _ (callAny (.type "set") _) _ _ _
  refine wpAny_pure ⟨Code.quiet_builtin _ (by decide +kernel), codeAny_builtin F.entry_type_call ?_⟩
  rw [Around.under_plain (weight_type_call_type "set" [.ref l] []) rfl]
  have m3 := cs.notType
  have m4 := cs.canCreate
  have m5 := F.typeCall_set_1 (.ref l)
  repeat (any_goals (first | assumption | wp_step))
  refine codeAny_mono (code_set_led1 (.ref l) (E := E) (Q₁ := fun ob t1 => ob = .ref s.heap.objs.size ∧ t1 = { s with heap := s.heap.push (sO w) }) ⟨rfl, rfl⟩) fun res t1 hres => ?_
  cases res with
  | error ex => exact hres
  | ok fl => cases fl with
    | ret ob =>
      obtain ⟨rfl, rfl⟩ := hres
      have at0 : (s.heap.push (sO w)).get? s.heap.objs.size = some (sO w) := Heap.get?_push_size _ rfl
      have ty0 : Shared.TypeIs { s with heap := s.heap.push (sO w) } (.ref s.heap.objs.size) "set" := ⟨_, at0, rfl⟩
      have n1 := cs.init.lookup
      have n2 := cs.init.bind (.ref s.heap.objs.size)
      repeat (any_goals (first | assumption | wp_step))
      refine codeAny_mono (codeAny_call_builtin (R := wants (fun v t2 => v = .none ∧ ∃ h' tk c, t2 = { s with heap := h', toks := tk } ∧ SetR w h' s.heap.objs.size (fun j => decide (j ∈ ns)) c ∧ c ≤ ns.length ∧
          (∀ b o, s.heap.get? b = some o → h'.get? b = some o)) E) cs.init.plain F.entry_set_init (check_set_init_1 ty0 ?_)) fun res2 t2 hres2 => ?_
      · obtain ⟨⟨oc, od, dt, osl⟩, hol, hcl, nl, hdl⟩ := hl
        simp only at hcl hdl
        subst hcl; subst hdl
        have hol1 : (s.heap.push (sO w)).get? l = some { cls := .type "list", dict := od, data := .seq its nl, slots := osl } := Heap.get?_push_of_some _ hol
        have p1 := F.sub_list_set
        have p2 := F.sub_list_frozenset
        have p3 : (Value.type "list" == Value.type "dict") = false := by decide
        have lst1 : (s.heap.push (sO w)).IsList l its := ⟨_, hol1, rfl, nl, rfl⟩
        unfold Builtin.«set.__init__» noKeywords Builtin.Frozenset.updateFrom
        generalize hPI : pyIter = PI
        wp_walk
        subst hPI
        refine wpAny_pyIter_list lst1 ?_
        refine wpAny_bind (wpAny_runValue ?_)
        have lt : l < s.heap.objs.size := Heap.lt_size hol
        have h3 : A.in1.in1.in1.handled = none := by simp [hh]
        have ne : l ≠ (s.heap.push (sO w)).objs.size := by rw [Heap.size_push]; exact Nat.ne_of_lt (Nat.lt_succ_of_lt lt)
        have out : s.heap.objs.size ∉ [(s.heap.push (sO w)).objs.size, l] := by
          rw [Heap.size_push]
          simp only [List.mem_cons, List.not_mem_nil, or_false, not_or]
          refine ⟨Nat.ne_of_lt (Nat.lt_succ_self _), Nat.ne_of_gt lt⟩
        have val : ∀ (i : Nat) (v : Value), its[i]? = some v → ∃ k t, ns[i]? = some k ∧ v = .int k t := fun i v hv => by
          have hi : i < ns.length := by rw [← size]; exact (Array.getElem?_eq_some_iff.mp hv).1
          obtain ⟨t, e⟩ := PyProof.Rows.IntsAre.int_at hit i v (by simpa using hv)
          refine ⟨ns[i], t, List.getElem?_eq_getElem hi, ?_⟩
          simpa [List.getD_eq_getElem?_getD, List.getElem?_eq_getElem hi] using e
        refine set_update_ints ((Walks.list h3 _ l ne its).toS) s.heap.objs.size out ns size few val (its.size - 0) 0 _ (by omega) (Nat.zero_le _)
          ⟨⟨_, Heap.get?_push_size _ rfl, rfl, rfl⟩, lst1.push _⟩ ⟨0, Nat.le_refl 0, setR_new_at (Heap.get?_push_of_some _ at0)⟩ ?_
        intro t3 c3 mv hc3 st
        obtain ⟨h', g2, d2, tk, os2⟩ := t3
        have eg : g2 = s.gens := mv.gens
        have ed : d2 = s.drawn := mv.drawn
        have eo : os2 = s.os := mv.os
        subst eg; subst ed; subst eo
        show wpAny _ _ _ _ _ _
        refine wpAny_pure ?_
        show wpAny _ _ (ret Value.none) _ _ _
        rw [size] at hc3
        refine wpAny_pure ⟨rfl, h', tk, c3, rfl, st, hc3, fun b o e => ?_⟩
        have b0 := Heap.lt_size e
        refine mv.heap b o ?_ (Heap.get?_push_of_some _ (Heap.get?_push_of_some _ e))
        simp only [List.mem_cons, List.not_mem_nil, or_false, not_or, Heap.size_push]
        exact ⟨Nat.ne_of_lt b0, Nat.ne_of_lt (Nat.lt_succ_of_lt b0)⟩
      · cases res2 with
        | error ex => exact hres2
        | ok fl2 => cases fl2 with
          | ret v =>
            obtain ⟨rfl, h', tk, c3, rfl, st, hc3, kp⟩ := hres2
            repeat (any_goals (first | assumption | wp_step))
            exact h _ _ _ st hc3 kp
          | _ => exact hres2.elim
    | _ => exact hres.elim
end
/-! ### by data -/
/-- put in where it belongs, once -/
def insU (x : Int) : List Int → List Int
  | [] => [x]
  | y :: r => if x < y then x :: y :: r else if x = y then y :: r else y :: insU x r
def srtU (ns : List Int) : List Int := ns.foldr insU []
theorem insU_mem {x z : Int} : ∀ {l : List Int}, z ∈ insU x l ↔ z = x ∨ z ∈ l
  | [] => by simp [insU]
  | y :: r => by
    rw [insU]
    split
    · simp
    · split
      · next h => subst h; simp
      · simp [insU_mem (l := r)]; constructor
        · rintro (h | h | h) <;> simp [h]
        · rintro (h | h | h) <;> simp [h]
theorem insU_lt {x : Int} : ∀ {l : List Int}, l.Pairwise (· < ·) → (insU x l).Pairwise (· < ·)
  | [], _ => by simp [insU]
  | y :: r, h => by
    rw [List.pairwise_cons] at h
    rw [insU]
    split
    · next e =>
      refine List.pairwise_cons.mpr ⟨fun z hz => ?_, List.pairwise_cons.mpr h⟩
      rcases List.mem_cons.mp hz with rfl | hz
      · exact e
      · have := h.1 z hz; omega
    · split
      · exact List.pairwise_cons.mpr h
      · next e1 e2 =>
        refine List.pairwise_cons.mpr ⟨fun z hz => ?_, insU_lt h.2⟩
        rcases insU_mem.mp hz with rfl | hz
        · omega
        · exact h.1 z hz
theorem srtU_mem {z : Int} : ∀ {l : List Int}, z ∈ srtU l ↔ z ∈ l
  | [] => by simp [srtU]
  | y :: r => by
    have := srtU_mem (z := z) (l := r)
    unfold srtU at *
    rw [List.foldr_cons, insU_mem, List.mem_cons, this]
theorem srtU_lt : ∀ (l : List Int), (srtU l).Pairwise (· < ·)
  | [] => List.Pairwise.nil
  | y :: r => by
    have := srtU_lt r
    unfold srtU at *
    rw [List.foldr_cons]
    exact insU_lt this
theorem lt_uniq : ∀ {a b : List Int}, a.Pairwise (· < ·) → b.Pairwise (· < ·) → (∀ z, z ∈ a ↔ z ∈ b) → a = b
  | [], [], _, _, _ => rfl
  | [], y :: b, _, _, h => by simpa using (h y).mpr (List.mem_cons_self ..)
  | x :: a, [], _, _, h => by simpa using (h x).mp (List.mem_cons_self ..)
  | x :: a, y :: b, h1, h2, h => by
    rw [List.pairwise_cons] at h1 h2
    have e : x = y := by
      rcases List.mem_cons.mp ((h x).mp (List.mem_cons_self ..)) with e | e
      · exact e
      · rcases List.mem_cons.mp ((h y).mpr (List.mem_cons_self ..)) with e' | e'
        · exact e'.symm
        · have := h1.1 _ e'; have := h2.1 _ e; omega
    subst e
    refine congrArg (x :: ·) (lt_uniq h1.2 h2.2 fun z => ?_)
    constructor
    · intro hz
      rcases List.mem_cons.mp ((h z).mp (List.mem_cons_of_mem _ hz)) with rfl | e
      · have := h1.1 _ hz; omega
      · exact e
    · intro hz
      rcases List.mem_cons.mp ((h z).mpr (List.mem_cons_of_mem _ hz)) with rfl | e
      · have := h2.1 _ hz; omega
      · exact e
section
variable {X : Cx}
def rSetL (K : PySem.W.Frag) (w : World) : List V → Hp → VK → Prop := fun xs H Q => ∃ (l : Addr) (ns : List Int), xs = [.ref l] ∧ SqL K H l (ns.map V.int) ∧ ns.length < 1000 ∧
  ∀ q, H q = none → Q (.ref q) (upd H q (SetO w q (fun j => decide (j ∈ ns)) (srtU ns).length))
theorem cr_setL (hc : X.calm = true) : CallR X (.type "set") (rSetL X.K X.w) := by
  intro pins s σ H xs us Q I r h
  obtain ⟨l, ns, rfl, hl, few, q⟩ := h
  rw [Vals.ref1 r]
  obtain ⟨its, rv, pl, hz⟩ := I.list hl
  have hi : PyProof.Rows.IntsAre its ns := intsAre_of rv
  refine set_of_lst (P := X.prog) (w := X.w) (its := its.toArray) ns (I.ok.hd hc) pl.isList hi (by unfold scanBound; omega) fun h' tk c R hc k => ?_
  have e : c = (srtU ns).length := by
    obtain ⟨o, es, ep, t, _, _, _, _, nd, hm, _, _, hn, _⟩ := R
    rw [← hn, ← Array.length_toList, ← List.length_map (f := keyOf)]
    exact nodup_len nd (List.Pairwise.imp (fun {a b} (h : a < b) => by omega) (srtU_lt ns)) fun x => by rw [← hm, srtU_mem]; simp
  subst e
  exact ⟨.ref s.heap.objs.size, _, I.laid (t' := tk) k (Nat.le_refl _) (setO_new R), rfl, q _ (I.hok.fresh (Nat.le_refl _))⟩
end
def gSortSet : D → Option D
  | .lst ds => match ints? ds with
    | some ns => if ns.length < 1000 ∧ (srtU ns).length < 64 then some (.lst ((srtU ns).map .int)) else none
    | none => none
  | _ => none
def eSortSet (fa : Den Hd) : Den D := eUn gSortSet fa
section
variable {K : KX} {Z : Hp} {al : List Addr}
theorem dvs_of_ints : ∀ (ns : List Int), DVs K Z al (ns.map V.int) (ns.map D.int)
  | [] => .nil
  | n :: ns => .cons (.int n) (dvs_of_ints ns)
end
section
variable {cls : Nat → Addr} {own : Nat → Bool} {X : Cx} {a : Expr} {fa : Den Hd} {p1 p2 p3 p4 : Pos}
theorem sf_sortSet (hc : X.calm = true) (hg1 : Gl X "sorted") (hm1 : X.mg "sorted" = none) (hg2 : Gl X "set") (hm2 : X.mg "set" = none) (ha : SH cls own X a fa)
    (s1 : starEach [a] X.env = (false, eval a X.env) :: starEach [] X.env := by rfl) (s2 : starEach [.Call (.Name "set" p2) [a] [] p3] X.env = (false, eval (.Call (.Name "set" p2) [a] [] p3) X.env) :: starEach [] X.env := by rfl)
    (q1 : (backTo p4 (starEach [] X.env)).any (·.1) = false := by rfl) (q2 : (backTo p3 (starEach [] X.env)).any (·.1) = false := by rfl) :
    SF cls own X (.Call (.Name "sorted" p1) [.Call (.Name "set" p2) [a] [] p3] [] p4) (eSortSet fa) := by
  refine pe_imp (pe_callB (cr_sortedSet hc) hg1 hm1 bt_sorted (pa_cons (pe_callTy (cr_setL hc) hg2 hm2 bt_set (pa_cons ha pa_nil s1) (by decide) (by decide) s1 q2) pa_nil s2) (by decide) (by decide) s2 q1) fun σ H Q q => ?_
  obtain ⟨G, al, m, d, m', r, e, k⟩ := q
  obtain ⟨h1, x, e1, l1, gz⟩ := eUn_ok e
  refine ⟨G, al, m, h1, m', r, e1, fun G1 al1 v H1 ev1 r1 hv1 => ?_⟩
  have cr := look_cr r1 hv1 l1
  unfold gSortSet at gz
  split at gz
  · next ds =>
    split at gz
    · next ns q1 =>
      split at gz
      · next hf =>
        cases gz
        obtain ⟨p, xs, rfl, h2, c2⟩ := cr
        cases c2.ints q1
        refine ⟨p, ns, rfl, .inl (.inl h2), hf.1, fun q hq => ?_⟩
        refine ⟨q, _, _, rfl, upd_same, hf.2, fun out p2 hlt hm hl hp => ?_⟩
        have eo : out = srtU ns := lt_uniq hlt (srtU_lt ns) fun z => by rw [hm, srtU_mem]; simp
        subst eo
        have k' : PostF (K := X.kx) (cls := cls) (own := own) (G := G1) (al := al1) (m := m') (σ := σ) (.lst ((srtU ns).map .int)) Q := fun G3 al3 w ob H3 ev3 r3 hp hn c => k G3 al3 w ob H3 (ev1.trans ev3) r3 hp hn c
        exact k'.lst (r1.fresh hq) (dvs_of_ints _) hp
      · cases gz
    · cases gz
  · cases gz
end
end MI

namespace MI
open PySem PySem.Spec L2

structure W {α : Type} (f : Den α) (m : MS) (Q : α → MS → Prop) : Prop where
  ex : ∃ a m', f m = .ok a m' ∧ Q a m'
/-- a def at its arguments -/
structure FS (f : Fn) (ds : List D) (st : Sto) (P : D → Sto → Prop) : Prop where
  ex : ∃ d st', f ds st = some (d, st') ∧ P d st'
section
variable {α β : Type} {m : MS} {Q : α → MS → Prop}
theorem W.mono {f : Den α} {Q' : α → MS → Prop} (h : W f m Q) (i : ∀ a m', Q a m' → Q' a m') : W f m Q' := by
  obtain ⟨a, m', e, q⟩ := h
  exact ⟨a, m', e, i a m' q⟩
theorem FS.mono {f : Fn} {ds : List D} {st : Sto} {P P' : D → Sto → Prop} (h : FS f ds st P) (i : ∀ d st', P d st' → P' d st') : FS f ds st P' := by
  obtain ⟨a, m', e, q⟩ := h
  exact ⟨a, m', e, i a m' q⟩
theorem w_of {f : Den α} {a : α} {m' : MS} (e : f m = .ok a m') (q : Q a m') : W f m Q := ⟨a, m', e, q⟩
theorem w_bind {f : Den β} {g : β → Den α} (h : W f m fun b m1 => W (g b) m1 Q) : W (f.bind g) m Q := by
  obtain ⟨b, m1, e, a, m2, e2, q⟩ := h
  refine ⟨a, m2, ?_, q⟩
  unfold Den.bind
  rw [e]
  exact e2
theorem w_ret {a : α} (q : Q a m) : W (Den.ret a) m Q := ⟨a, m, rfl, q⟩
end
section
variable {m : MS} {Q : D → MS → Prop} {QH : Hd → MS → Prop} {QL : List D → MS → Prop} {QA : List Hd → MS → Prop} {QB : Bool → MS → Prop} {QF : Fl → MS → Prop} {i : Nat} {d : D}
theorem w_var (e : m.sl[i]? = some (some d)) (q : Q d m) : W (eVar i) m Q := by
  refine ⟨d, m, ?_, q⟩
  unfold eVar
  rw [e]
theorem w_c (q : Q d m) : W (eC d) m Q := ⟨d, m, rfl, q⟩
theorem w_hslot (e : m.sl[i]? = some (some d)) (q : QH (.slot i) m) : W (hSlot i) m QH := by
  refine ⟨.slot i, m, ?_, q⟩
  unfold hSlot
  rw [e]
theorem w_hval {f : Den D} (h : W f m fun d m1 => QH (.val d) m1) : W (hVal f) m QH := w_bind (h.mono fun d m1 q => w_ret q)
theorem w_anil (q : QA [] m) : W aNil m QA := w_ret q
theorem w_acons {f : Den Hd} {r : Den (List Hd)} (h : W f m fun a m1 => W r m1 fun as m2 => QA (a :: as) m2) : W (aCons f r) m QA :=
  w_bind (h.mono fun a m1 q => w_bind (q.mono fun as m2 q => w_ret q))
theorem w_avals {f : Den (List Hd)} (h : W f m fun hs m1 => ∃ ds, looksV hs = some ds ∧ QL ds m1) : W (aVals f) m QL := by
  refine w_bind (h.mono fun hs m1 ⟨ds, e, q⟩ => ⟨ds, m1, ?_, q⟩)
  simp only [e]
theorem w_alooks {f : Den (List Hd)} (h : W f m fun hs m1 => ∃ ds, looks hs m1 = some ds ∧ QL ds m1) : W (aLooks f) m QL := by
  refine w_bind (h.mono fun hs m1 ⟨ds, e, q⟩ => ⟨ds, m1, ?_, q⟩)
  simp only [e]
theorem w_op {g : D → D → Option D} {fa fb : Den Hd} (h : W fa m fun a m1 => W fb m1 fun b m2 => ∃ x y d, look a m2 = some x ∧ look b m2 = some y ∧ g x y = some d ∧ Q d m2) : W (eOp g fa fb) m Q := by
  refine w_bind (h.mono fun a m1 q => w_bind (q.mono fun b m2 ⟨x, y, d, e1, e2, e3, q⟩ => ⟨d, m2, ?_, q⟩))
  simp only [e1, e2, e3]
theorem w_un {g : D → Option D} {fa : Den Hd} (h : W fa m fun a m1 => ∃ x d, look a m1 = some x ∧ g x = some d ∧ Q d m1) : W (eUn g fa) m Q := by
  refine w_bind (h.mono fun a m1 ⟨x, d, e1, e3, q⟩ => ⟨d, m1, ?_, q⟩)
  simp only [e1, e3]
theorem w_fn {g : List D → Option D} {fa : Den (List Hd)} (h : W fa m fun a m1 => ∃ x d, looks a m1 = some x ∧ g x = some d ∧ Q d m1) : W (eFn g fa) m Q := by
  refine w_bind (h.mono fun a m1 ⟨x, d, e1, e3, q⟩ => ⟨d, m1, ?_, q⟩)
  simp only [e1, e3]
theorem w_tup {fa : Den (List Hd)} (h : W fa m fun a m1 => ∃ ds, looksV a = some ds ∧ fitL ds.length = true ∧ Q (.tup ds) m1) : W (eTup fa) m Q := by
  refine w_bind (h.mono fun a m1 ⟨ds, e1, e3, q⟩ => ⟨_, m1, ?_, q⟩)
  simp only [e1, e3, if_true]
theorem w_lst {fa : Den (List Hd)} (h : W fa m fun a m1 => ∃ ds, looksV a = some ds ∧ fitL ds.length = true ∧ Q (.lst ds) m1) : W (eLst fa) m Q := by
  refine w_bind (h.mono fun a m1 ⟨ds, e1, e3, q⟩ => ⟨_, m1, ?_, q⟩)
  simp only [e1, e3, if_true]
theorem w_cut {fa : Den Hd} {fl fh : Den (Option Int)} (h : W fa m fun a m1 => W fl m1 fun lo m2 => W fh m2 fun hi m3 => ∃ x d, look a m3 = some x ∧ gCut x lo hi = some d ∧ Q d m3) : W (eCut fa fl fh) m Q := by
  refine w_bind (h.mono fun a m1 q => w_bind (q.mono fun lo m2 q => w_bind (q.mono fun hi m3 ⟨x, d, e1, e3, q⟩ => ⟨_, m3, ?_, q⟩)))
  simp only [e1, e3]
theorem w_pno {Q : Option Int → MS → Prop} (q : Q none m) : W pNo m Q := w_ret q
theorem w_pint {f : Den D} {Q : Option Int → MS → Prop} (h : W f m fun d m1 => ∃ j, d = .int j ∧ Q (some j) m1) : W (pInt f) m Q := by
  refine w_bind (h.mono fun d m1 ⟨j, e, q⟩ => ?_)
  subst e
  exact ⟨_, m1, rfl, q⟩
theorem w_join {fo fe : Den D} (h : W fo m fun o m1 => ∃ z, o = .str z ∧ W fe m1 fun x m2 => ∃ y, gJoin (.str z) x = some y ∧ Q y m2) : W (eJoin fo fe) m Q := by
  refine w_bind (h.mono fun o m1 ⟨z, e, x, m2, e1, y, e2, q⟩ => ⟨y, m2, ?_, q⟩)
  subst e
  simp only [e1, e2]
theorem w_index {fo : Den D} {fs : Den (List Hd)} (h : W fo m fun o m1 => ∃ ds, o = .tup ds ∧ W fs m1 fun hs m2 => ∃ h x y, hs = [h] ∧ look h m2 = some x ∧ gIndex (.tup ds) x = some y ∧ Q y m2) : W (eIndex fo fs) m Q := by
  refine w_bind (h.mono fun o m1 ⟨ds, e, hs, m2, e1, h, x, y, e2, e3, e4, q⟩ => ⟨y, m2, ?_, q⟩)
  subst e; subst e2
  simp only [e1, e3, e4]
theorem w_mut {g : List D → List D → Option (D × List D)} {fa : Den (List D)} {ds0 : List D} (e0 : m.sl[i]? = some (some (.lst ds0)))
    (h : W fa m fun xs m1 => ∃ ds z ds', m1.sl[i]? = some (some (.lst ds)) ∧ g ds xs = some (z, ds') ∧ Q z { m1 with sl := m1.sl.set i (some (.lst ds')) }) : W (eMut i g fa) m Q := by
  obtain ⟨xs, m1, e1, ds, z, ds', e2, e3, q⟩ := h
  refine ⟨z, _, ?_, q⟩
  unfold eMut
  rw [e0]
  show (match fa m with | .ok xs m1 => (match m1.sl[i]? with | some (some (.lst ds)) => (match g ds xs with | some (z, ds') => R.ok z { m1 with sl := m1.sl.set i (some (.lst ds')) } | none => .bad) | _ => .bad) | .bad => .bad) = _
  rw [e1]
  show (match m1.sl[i]? with | some (some (.lst ds)) => (match g ds xs with | some (z, ds') => R.ok z { m1 with sl := m1.sl.set i (some (.lst ds')) } | none => .bad) | _ => .bad) = _
  rw [e2]
  show (match g ds xs with | some (z, ds') => R.ok z { m1 with sl := m1.sl.set i (some (.lst ds')) } | none => .bad) = _
  rw [e3]
theorem w_callK {f : Fn} {sp : List Src} {dd : List D} {fs fk : Den (List D)} (h : W fs m fun ds m1 => W fk m1 fun es m2 => FS f (arr sp ds dd es) m2.st fun d st => Q d { m2 with st := st }) : W (eCallK f sp dd fs fk) m Q := by
  refine w_bind (h.mono fun ds m1 q => w_bind (q.mono fun es m2 ⟨d, st, e, q⟩ => ⟨d, _, ?_, q⟩))
  simp only [e]
theorem w_share {f : Den D} (h : W f m fun d m1 => ∃ ds, d = .lst ds ∧ Q (.obj m1.st.length) { m1 with st := m1.st ++ [.lst ds] }) : W (eShare f) m Q := by
  refine w_bind (h.mono fun d m1 ⟨ds, e, q⟩ => ?_)
  subst e
  exact ⟨_, _, rfl, q⟩
theorem w_listrg {f : Den (List D)} (h : W f m fun ds m1 => ds.length ≤ 16777216 ∧ Q (.lst ds) m1) : W (eListRg f) m Q := by
  refine w_bind (h.mono fun d m1 ⟨e, q⟩ => ⟨_, m1, ?_, q⟩)
  simp only [e, if_true]
theorem w_irg1 {fa : Den Hd} (h : W fa m fun h m1 => ∃ j, h = .val (.int j) ∧ smallI j = true ∧ QL (rangeD 0 j.toNat) m1) : W (iRg1 fa) m QL := by
  refine w_bind (h.mono fun d m1 ⟨j, e, s, q⟩ => ?_)
  subst e
  refine ⟨_, m1, if_pos s, ?_⟩
  rw [Int.sub_zero]
  exact q
/-! tests -/
theorem w_bof {f : Den D} (h : W f m fun d m1 => ∃ b, d = .bl b ∧ QB b m1) : W (bOf f) m QB := by
  refine w_bind (h.mono fun d m1 ⟨b, e, q⟩ => ?_)
  subst e
  exact ⟨b, m1, rfl, q⟩
theorem w_btru {f : Den Hd} (h : W f m fun h m1 => ∃ d b, look h m1 = some d ∧ gTru d = some b ∧ QB b m1) : W (bTru f) m QB := by
  refine w_bind (h.mono fun h m1 ⟨d, b, e1, e2, q⟩ => ⟨b, m1, ?_, q⟩)
  simp only [e1, e2]
theorem w_band {f g : Den Bool} (h : W f m fun b m1 => (b = true → W g m1 QB) ∧ (b = false → QB false m1)) : W (bAnd f g) m QB := by
  refine w_bind (h.mono fun b m1 q => ?_)
  cases b with
  | true => exact q.1 rfl
  | false => exact w_ret (q.2 rfl)
theorem w_bor {f g : Den Bool} (h : W f m fun b m1 => (b = true → QB true m1) ∧ (b = false → W g m1 QB)) : W (bOr f g) m QB := by
  refine w_bind (h.mono fun b m1 q => ?_)
  cases b with
  | true => exact w_ret (q.1 rfl)
  | false => exact q.2 rfl
theorem w_bnot {f : Den Bool} (h : W f m fun b m1 => QB (!b) m1) : W (bNot f) m QB := w_bind (h.mono fun b m1 q => w_ret q)
theorem w_eif {c : Den Bool} {f g : Den D} (h : W c m fun b m1 => (b = true → W f m1 Q) ∧ (b = false → W g m1 Q)) : W (eIf c f g) m Q := by
  refine w_bind (h.mono fun b m1 q => ?_)
  cases b with
  | true => exact q.1 rfl
  | false => exact q.2 rfl
theorem w_eand {f g : Den D} (h : W (bOf f) m fun b m1 => (b = true → W g m1 Q) ∧ (b = false → Q (.bl false) m1)) : W (eAnd f g) m Q := by
  refine w_bind (h.mono fun b m1 q => ?_)
  cases b with
  | true => exact q.1 rfl
  | false => exact w_ret (q.2 rfl)
theorem w_eor {f g : Den D} (h : W (bOf f) m fun b m1 => (b = true → Q (.bl true) m1) ∧ (b = false → W g m1 Q)) : W (eOr f g) m Q := by
  refine w_bind (h.mono fun b m1 q => ?_)
  cases b with
  | true => exact w_ret (q.1 rfl)
  | false => exact q.2 rfl
/-! statements -/
theorem w_seq {f g : Den Fl} (h : W f m fun fl m1 => match fl with | .nx => W g m1 QF | fl => QF fl m1) : W (sSeq f g) m QF := by
  refine w_bind (h.mono fun fl m1 q => ?_)
  cases fl with
  | nx => exact q
  | rt d => exact w_ret q
  | bk => exact w_ret q
  | ct => exact w_ret q
theorem w_nx (q : QF .nx m) : W sNx m QF := w_ret q
theorem w_drop {f : Den D} (h : W f m fun _ m1 => QF .nx m1) : W (sDrop f) m QF := w_bind (h.mono fun d m1 q => w_ret q)
theorem w_rt {f : Den D} (h : W f m fun d m1 => QF (.rt d) m1) : W (sRet f) m QF := w_bind (h.mono fun d m1 q => w_ret q)
theorem w_if {c : Den Bool} {f g : Den Fl} (h : W c m fun b m1 => (b = true → W f m1 QF) ∧ (b = false → W g m1 QF)) : W (sIf c f g) m QF := by
  refine w_bind (h.mono fun b m1 q => ?_)
  cases b with
  | true => exact q.1 rfl
  | false => exact q.2 rfl
theorem w_set {f : Den D} (h : W f m fun d m1 => QF .nx ⟨m1.sl.set i (some d), m1.st⟩) : W (sSet i f) m QF := w_bind (h.mono fun d m1 q => ⟨_, _, rfl, q⟩)
theorem w_asg {tg : Tg} {f : Den D} (h : W f m fun d m1 => ∃ sl, tgSet tg d m1.sl = some sl ∧ QF .nx ⟨sl, m1.st⟩) : W (sAsg tg f) m QF := by
  refine w_bind (h.mono fun d m1 ⟨sl, e, q⟩ => ⟨.nx, _, ?_, q⟩)
  simp only [e]
theorem w_frz {f : Den Fl} (h : W f m fun fl m1 => QF fl ⟨m1.sl.set i none, m1.st⟩) : W (sFrz i f) m QF := by
  obtain ⟨fl, m1, e, q⟩ := h
  refine ⟨fl, _, ?_, q⟩
  unfold sFrz
  rw [e]
theorem w_put {fk : Den Hd} {fv : Den D} (h : W fv m fun v m1 => ∃ d0, m1.sl[i]? = some (some d0) ∧ W fk m1 fun hk m2 => ∃ d k d', m2.sl[i]? = some (some d) ∧ look hk m2 = some k ∧ gSet d k v = some d' ∧ QF .nx ⟨m2.sl.set i (some d'), m2.st⟩) : W (sPut i fk fv) m QF := by
  refine w_bind (h.mono fun v m1 ⟨d0, e0, hk, m2, e1, d, k, d', e2, e3, e4, q⟩ => ⟨.nx, _, ?_, q⟩)
  simp only [e0, e1, e2, e3, e4]
theorem w_multi {is : List Nat} {f : Den (List D)} (h : W f m fun ds m1 => ds.length = is.length ∧ QF .nx ⟨setD m1.sl is ds, m1.st⟩) : W (sMulti is f) m QF := by
  refine w_bind (h.mono fun ds m1 ⟨e, q⟩ => ⟨.nx, _, ?_, q⟩)
  simp only [e, if_true]
theorem w_mnil (q : QL [] m) : W mNil m QL := w_ret q
theorem w_mcons {f : Den D} {r : Den (List D)} (h : W f m fun a m1 => W r m1 fun as m2 => QL (a :: as) m2) : W (mCons f r) m QL :=
  w_bind (h.mono fun a m1 q => w_bind (q.mono fun as m2 q => w_ret q))
/-! sources -/
theorem w_iseq {f : Den D} (h : W f m fun d m1 => ∃ ds, (d = .lst ds ∨ d = .tup ds) ∧ QL ds m1) : W (iSeq f) m QL := by
  refine w_bind (h.mono fun d m1 ⟨ds, e, q⟩ => ⟨ds, m1, ?_, q⟩)
  rcases e with rfl | rfl <;> rfl
theorem w_irange1 {f : Den (List Hd)} (h : W f m fun hs m1 => ∃ j, hs = [.val (.int j)] ∧ smallI j = true ∧ QL (rangeD 0 j.toNat) m1) : W (iRange1 f) m QL := by
  refine w_bind (h.mono fun hs m1 ⟨j, e, s, q⟩ => ⟨_, m1, ?_, q⟩)
  subst e
  exact if_pos s
theorem w_irange2 {f : Den (List Hd)} (h : W f m fun hs m1 => ∃ i j, hs = [.val (.int i), .val (.int j)] ∧ (smallI i && smallI j) = true ∧ QL (rangeD i (j - i).toNat) m1) : W (iRange2 f) m QL := by
  refine w_bind (h.mono fun hs m1 ⟨i, j, e, s, q⟩ => ⟨_, m1, ?_, q⟩)
  subst e
  exact if_pos s
theorem w_ienum {f : Den (List Hd)} (h : W f m fun hs m1 => ∃ ds, (hs = [.val (.lst ds)] ∨ hs = [.val (.tup ds)]) ∧ QL (enumD 0 ds) m1) : W (iEnum f) m QL := by
  refine w_bind (h.mono fun hs m1 ⟨ds, e, q⟩ => ⟨_, m1, ?_, q⟩)
  rcases e with rfl | rfl <;> rfl
theorem w_izip {f : Den (List Hd)} (h : W f m fun hs m1 => ∃ a b xs ys, hs = [.val a, .val b] ∧ (a = .lst xs ∨ a = .tup xs) ∧ (b = .lst ys ∨ b = .tup ys) ∧ QL (zipD xs ys) m1) : W (iZip2 f) m QL := by
  refine w_bind (h.mono fun hs m1 ⟨a, b, xs, ys, e, e1, e2, q⟩ => ⟨_, m1, ?_, q⟩)
  subst e
  rcases e1 with rfl | rfl <;> rcases e2 with rfl | rfl <;> rfl
/-! loops -/
/-- what one turn must come to -/
def turnQ (I : MS → Prop) (QF : Fl → MS → Prop) : Fl → MS → Prop := fun fl m => match fl with
  | .nx => I m
  | .ct => I m
  | .bk => QF .nx m
  | .rt d => QF (.rt d) m
/-- a for: I of what is done -/
theorem w_for {src : Den (List D)} {tg : Tg} {body : Den Fl} (I : List D → List D → MS → Prop)
    (h : W src m fun ds m1 => I ds [] m1 ∧ (∀ done d rest m2, done ++ d :: rest = ds → I ds done m2 → ∃ sl, tgSet tg d m2.sl = some sl ∧ W body ⟨sl, m2.st⟩ (turnQ (I ds (done ++ [d])) QF)) ∧ ∀ m2, I ds ds m2 → QF .nx m2) : W (sFor src tg body) m QF := by
  refine w_bind (h.mono fun ds m1 ⟨h0, hb, hf⟩ => ?_)
  suffices hs : ∀ (rest done : List D) (m : MS), done ++ rest = ds → I ds done m → W (loopD tg body rest) m QF from hs ds [] m1 rfl h0
  intro rest
  induction rest with
  | nil => intro done m e h; exact w_ret (hf m (by rw [← e]; simpa using (by rw [← e] at h; simpa using h)))
  | cons d rest ih =>
    intro done m e h
    obtain ⟨sl, e0, fl, m1, e1, q⟩ := hb done d rest m e h
    have go : I ds (done ++ [d]) m1 → W (loopD tg body rest) m1 QF := fun h1 => ih (done ++ [d]) m1 (by rw [← e]; simp) h1
    refine ⟨?_⟩
    unfold loopD
    rw [e0]
    show ∃ a m', (match body { m with sl := sl } with | .ok .nx m2 => loopD tg body rest m2 | .ok .ct m2 => loopD tg body rest m2 | .ok .bk m2 => R.ok Fl.nx m2 | .ok (.rt d) m2 => R.ok (.rt d) m2 | .bad => .bad) = R.ok a m' ∧ QF a m'
    rw [e1]
    cases fl with
    | nx => exact (go q).ex
    | ct => exact (go q).ex
    | bk => exact ⟨_, _, rfl, q⟩
    | rt d => exact ⟨_, _, rfl, q⟩
/-- a while of at most n turns: I falls -/
theorem w_while {c : Den Bool} {body : Den Fl} (I : Nat → MS → Prop) : ∀ (n k : Nat) (m : MS), k < n → I k m →
    (∀ k m, I k m → W c m fun b m1 => (b = false → QF .nx m1) ∧ (b = true → W body m1 (turnQ (fun m2 => ∃ k', k' < k ∧ I k' m2) QF))) → W (sWhile c body n) m QF
  | 0, k, m, hk, _, _ => by omega
  | n + 1, k, m, hk, h, hb => by
    obtain ⟨b, m1, e, q0, q1⟩ := hb k m h
    refine ⟨?_⟩
    unfold sWhile
    rw [e]
    cases b with
    | false => exact ⟨_, _, rfl, q0 rfl⟩
    | true =>
      obtain ⟨fl, m2, e2, q⟩ := q1 rfl
      show ∃ a m', (match body m1 with | .ok .nx m2 => sWhile c body n m2 | .ok .ct m2 => sWhile c body n m2 | .ok .bk m2 => R.ok Fl.nx m2 | .ok (.rt d) m2 => R.ok (.rt d) m2 | .bad => .bad) = R.ok a m' ∧ QF a m'
      rw [e2]
      cases fl with
      | nx => obtain ⟨k', hk', h'⟩ := q; exact (w_while I n k' m2 (by omega) h' hb).ex
      | ct => obtain ⟨k', hk', h'⟩ := q; exact (w_while I n k' m2 (by omega) h' hb).ex
      | bk => exact ⟨_, _, rfl, q⟩
      | rt d => exact ⟨_, _, rfl, q⟩
/-- a comprehension: I of what is done, what is made -/
theorem w_lc {src : Den (List D)} {vs : List Nat} {tg : Tg} {tt : Den Bool} {te : Den D} (I : List D → List D → List D → MS → Prop)
    (h : W src m fun ds m1 => I ds [] [] m1 ∧ (∀ done d rest ys m2, done ++ d :: rest = ds → I ds done ys m2 → ∃ sl, tgSet tg d (wipeM m2.sl vs) = some sl ∧
      W tt ⟨sl, m2.st⟩ fun b m3 => (b = false → I ds (done ++ [d]) ys m3) ∧ (b = true → W te m3 fun y m4 => I ds (done ++ [d]) (ys ++ [y]) m4)) ∧
      ∀ ys m2, I ds ds ys m2 → fitL ys.length = true ∧ Q (.lst ys) ⟨backM m1.sl m2.sl vs, m2.st⟩) : W (eLc src vs tg tt te) m Q := by
  refine w_bind (h.mono fun ds m1 ⟨h0, hb, hf⟩ => ?_)
  suffices hs : ∀ (rest done ys : List D) (m : MS), done ++ rest = ds → I ds done ys m → W (lcLoop vs tg tt te rest) m fun zs m' => I ds ds (ys ++ zs) m' by
    obtain ⟨zs, m2, e, q⟩ := hs ds [] [] m1 rfl h0
    obtain ⟨f, q⟩ := hf _ _ q
    refine ⟨_, _, ?_, q⟩
    simp only [e]
    exact if_pos f
  intro rest
  induction rest with
  | nil => intro done ys m e h; exact w_ret (by rw [← e]; simpa using (by rw [← e] at h; simpa using h))
  | cons d rest ih =>
    intro done ys m e h
    obtain ⟨sl, e0, b, m3, e1, qf, qt⟩ := hb done d rest ys m e h
    have e' : (done ++ [d]) ++ rest = ds := by rw [← e]; simp
    cases b with
    | false =>
      obtain ⟨zs, m4, e4, q4⟩ := ih (done ++ [d]) ys m3 e' (qf rfl)
      refine ⟨zs, m4, ?_, q4⟩
      unfold lcLoop
      simp only [e0, e1]
      exact e4
    | true =>
      obtain ⟨y, m4, e4, q4⟩ := qt rfl
      obtain ⟨zs, m5, e5, q5⟩ := ih (done ++ [d]) (ys ++ [y]) m4 e' q4
      refine ⟨y :: zs, m5, ?_, by simpa using q5⟩
      unfold lcLoop
      simp only [e0, e1, e4, e5]
/-- a def at its arguments, by its body -/
theorem fs_run {n : Nat} {body : Den Fl} {ds : List D} {st : Sto} {P : D → Sto → Prop}
    (h : W body ⟨ds.map some ++ List.replicate (n - ds.length) none, st⟩ fun fl m => match fl with | .rt d => P d m.st | .nx => P .non m.st | _ => False) : FS (runFn n body) ds st P := by
  obtain ⟨fl, m, e, q⟩ := h
  refine ⟨?_⟩
  unfold runFn
  rw [e]
  cases fl with
  | nx => exact ⟨_, _, rfl, q⟩
  | rt d => exact ⟨_, _, rfl, q⟩
  | bk => exact q.elim
  | ct => exact q.elim
theorem fitk {n : Nat} (h : n ≤ 100000) : fitL n = true := by
  unfold fitL
  rw [decide_eq_true_eq, sizeLine_eq]
  omega
theorem xT {a : List Hd} {ds : List D} {P : List D → Prop} (h : looksV a = some ds) (f : fitL ds.length = true) (q : P ds) : ∃ ds, looksV a = some ds ∧ fitL ds.length = true ∧ P ds := ⟨ds, h, f, q⟩
theorem x1 {P : D → Prop} {o : Option D} {d : D} (h : o = some d) (q : P d) : ∃ d, o = some d ∧ P d := ⟨d, h, q⟩
theorem x2 {o1 : Option D} {g : D → Option D} {P : D → Prop} {x d : D} (h1 : o1 = some x) (h : g x = some d) (q : P d) : ∃ x d, o1 = some x ∧ g x = some d ∧ P d := ⟨x, d, h1, h, q⟩
theorem x2L {o1 : Option (List D)} {g : List D → Option D} {P : D → Prop} {x : List D} {d : D} (h1 : o1 = some x) (h : g x = some d) (q : P d) : ∃ x d, o1 = some x ∧ g x = some d ∧ P d := ⟨x, d, h1, h, q⟩
theorem x3 {o1 o2 : Option D} {g : D → D → Option D} {P : D → Prop} {x y d : D} (h1 : o1 = some x) (h2 : o2 = some y) (h : g x y = some d) (q : P d) : ∃ x y d, o1 = some x ∧ o2 = some y ∧ g x y = some d ∧ P d := ⟨x, y, d, h1, h2, h, q⟩
end
end MI

namespace MI
open PySem PySem.Spec L2

/-- told, of depth n at most, no truths -/
def Kd (n : Nat) (d : D) : Prop := ∃ b, RN n b d
theorem RN.str {x : Str} (h : lowS x = true) {n : Nat} : RN n x.cps.size (.str x) := ⟨.str x, by rw [toPy], by rw [nic]; exact h, by rw [PyData.depth]; exact Nat.zero_le _, by rw [PyData.bulk]; exact Nat.le_refl _, by rw [noB]⟩
theorem Kd.str {x : Str} (h : lowS x = true) {n : Nat} : Kd n (.str x) := ⟨_, RN.str h⟩
theorem Kd.int {i : Int} (h1 : -(2 ^ 200) < i) (h2 : i < 2 ^ 200) {n : Nat} : Kd n (.int i) := ⟨0, RN.int h1 h2⟩
theorem Kd.mono {n k : Nat} {d : D} (h : Kd n d) (hn : n ≤ k) : Kd k d := by obtain ⟨b, h⟩ := h; exact ⟨b, h.mono hn (Nat.le_refl _)⟩
theorem kd_max {n : Nat} : ∀ {ds : List D}, (∀ d ∈ ds, Kd n d) → ∃ b, ∀ d ∈ ds, RN n b d
  | [], _ => ⟨0, fun d h => by cases h⟩
  | d :: ds, h => by
    obtain ⟨b, hb⟩ := kd_max (ds := ds) fun x hx => h x (List.mem_cons_of_mem _ hx)
    obtain ⟨c, hc⟩ := h d (List.mem_cons_self ..)
    refine ⟨b + c, fun x hx => ?_⟩
    rcases List.mem_cons.mp hx with rfl | hx
    · exact hc.mono (Nat.le_refl _) (by omega)
    · exact (hb x hx).mono (Nat.le_refl _) (by omega)
theorem Kd.tup {n : Nat} {ds : List D} (h : ∀ d ∈ ds, Kd n d) : Kd (n + 1) (.tup ds) := by
  obtain ⟨b, hb⟩ := kd_max h
  exact ⟨_, RN.tup hb (Nat.le_refl _)⟩
theorem Kd.lst {n : Nat} {ds : List D} (h : ∀ d ∈ ds, Kd n d) : Kd (n + 1) (.lst ds) := by
  obtain ⟨b, hb⟩ := kd_max h
  exact ⟨_, RN.lst hb (Nat.le_refl _)⟩
theorem kd_ne {n k : Nat} {x y : D} (hx : Kd n x) (hy : Kd k y) (h1 : n ≤ 64 := by decide) (h2 : k ≤ 64 := by decide) : ∃ c : Bool, gNe x y = some (.bl c) ∧ (c = false ↔ x = y) := by
  obtain ⟨b, hx⟩ := hx
  obtain ⟨b', hy⟩ := hy
  obtain ⟨c, e, h⟩ := eqB_RN hx hy h1 h2
  refine ⟨!c, by unfold gNe; rw [e]; rfl, ?_⟩
  rw [← h]; cases c <;> simp
theorem kd_same {n : Nat} {x : D} (hx : Kd n x) (h1 : n ≤ 64 := by decide) : gNe x x = some (.bl false) := by
  obtain ⟨c, e, h⟩ := kd_ne hx hx h1 h1
  rw [e, h.mpr rfl]
theorem kd_eq {n k : Nat} {x y : D} (hx : Kd n x) (hy : Kd k y) (h1 : n ≤ 64 := by decide) (h2 : k ≤ 64 := by decide) : ∃ c : Bool, gEq x y = some (.bl c) ∧ (c = true ↔ x = y) := by
  obtain ⟨b, hx⟩ := hx
  obtain ⟨b', hy⟩ := hy
  obtain ⟨c, e, h⟩ := eqB_RN hx hy h1 h2
  exact ⟨c, by unfold gEq; rw [e]; rfl, h⟩
theorem kd_notin {n k : Nat} {x : D} {ds : List D} (hx : Kd n x) (hd : Kd k (.lst ds)) (h1 : n ≤ 64 := by decide) (h2 : k ≤ 64 := by decide) : ∃ c : Bool, gNotInA x (.lst ds) = some (.bl c) ∧ (c = false ↔ x ∈ ds) := by
  obtain ⟨b, hx⟩ := hx
  obtain ⟨b', hd⟩ := hd
  obtain ⟨c, _, e, h⟩ := gIn_lst hx hd h1 h2
  refine ⟨!c, e, ?_⟩
  rw [← h]; cases c <;> simp
theorem p200 : (1000 : Int) < 2 ^ 200 := by decide
theorem small_int {i : Int} (h0 : -1000 < i) (h1 : i < 1000) {n : Nat} : Kd n (.int i) := by
  have := p200
  exact Kd.int (by omega) (by omega)
theorem kd_ints {ns : List Int} (h : ∀ x ∈ ns, -1000 < x ∧ x < 1000) : Kd 1 (.lst (ns.map .int)) := Kd.lst fun d hd => by
  obtain ⟨x, hx, rfl⟩ := List.mem_map.mp hd
  exact small_int (h x hx).1 (h x hx).2
theorem kd_intsT {ns : List Int} (h : ∀ x ∈ ns, -1000 < x ∧ x < 1000) : Kd 1 (.tup (ns.map .int)) := Kd.tup fun d hd => by
  obtain ⟨x, hx, rfl⟩ := List.mem_map.mp hd
  exact small_int (h x hx).1 (h x hx).2
theorem notin_ints {g : Int} {ns : List Int} (h : ∀ x ∈ ns, -1000 < x ∧ x < 1000) (h0 : -1000 < g) (h1 : g < 1000) : gNotInA (.int g) (.lst (ns.map .int)) = some (.bl (decide (g ∉ ns))) := by
  obtain ⟨c, e, hc⟩ := kd_notin (n := 1) (small_int h0 h1) (kd_ints h)
  rw [e]
  have : (D.int g ∈ ns.map D.int) ↔ g ∈ ns := by
    constructor
    · intro hm
      obtain ⟨x, hx, e⟩ := List.mem_map.mp hm
      cases e; exact hx
    · intro hm; exact List.mem_map.mpr ⟨g, hm, rfl⟩
  rw [this] at hc
  cases c with
  | false => simp [hc.mp rfl]
  | true =>
    have : g ∉ ns := fun z => by have := hc.mpr z; cases this
    simp [this]
/-! ### t.index(x) -/
theorem idxP_at {p : PyData} : ∀ {ps : List PyData} {j : Nat}, (∀ q ∈ ps, PyData.eqv q p = true ↔ q = p) → ps[j]? = some p → (∀ i, i < j → ps[i]? ≠ some p) → idxP p ps = some j
  | [], j, _, h, _ => by cases h
  | q :: ps, 0, he, h, _ => by
    have : q = p := by simpa using h
    rw [idxP, if_pos ((he q (List.mem_cons_self ..)).mpr this)]
  | q :: ps, j + 1, he, h, hn => by
    have hq : ¬ q = p := fun z => hn 0 (by omega) (by rw [z]; rfl)
    rw [idxP, if_neg (fun z => hq ((he q (List.mem_cons_self ..)).mp z))]
    rw [idxP_at (fun z hz => he z (List.mem_cons_of_mem _ hz)) (by simpa using h) (fun i hi z => hn (i + 1) (by omega) (by simpa using z))]
    rfl
theorem toPys_get : ∀ {ds : List D} {ps : List PyData} (i : Nat) {d : D}, toPys ds = some ps → ds[i]? = some d → ∃ p, ps[i]? = some p ∧ toPy d = some p
  | [], _, i, d, _, h => by simp at h
  | d :: ds, ps, i, e, h, hi => by
    obtain ⟨q, qs, h1, h2, rfl⟩ := toPys_cons h
    cases i with
    | zero => simp at hi; subst hi; exact ⟨q, rfl, h1⟩
    | succ i => simp at hi; simpa using toPys_get i h2 hi
theorem toPys_len : ∀ {ds : List D} {ps : List PyData}, toPys ds = some ps → ps.length = ds.length
  | [], _, h => by rw [toPys] at h; cases h; rfl
  | d :: ds, ps, h => by
    obtain ⟨q, qs, h1, h2, rfl⟩ := toPys_cons h
    rw [List.length_cons, List.length_cons, toPys_len h2]
theorem kd_index {n k : Nat} {x : D} {ds : List D} {j : Nat} (hd : Kd n (.tup ds)) (hx : Kd k x) (hj : ds[j]? = some x) (hn : ds.Nodup) (h1 : n ≤ 64 := by decide) (h2 : k ≤ 64 := by decide) : gIndex (.tup ds) x = some (.int (j : Nat)) := by
  obtain ⟨b, hd⟩ := hd
  obtain ⟨b', hx⟩ := hx
  obtain ⟨p, e1, f1⟩ := hx.rd.okE h2
  obtain ⟨q, e2, f2⟩ := hd.rd.okE h1
  obtain ⟨p', g1, _, _, _, n1⟩ := hx
  obtain ⟨q', g2, _, _, _, n2⟩ := hd
  rw [f1] at g1; cases g1
  rw [f2] at g2; cases g2
  rw [toPy, Option.map_eq_some_iff] at f2
  obtain ⟨ps, f3, rfl⟩ := f2
  rw [noB] at n2
  have hp : ps[j]? = some p := by
    obtain ⟨p2, h3, h4⟩ := toPys_get j f3 hj
    rw [f1] at h4; cases h4; exact h3
  have hlt : j < ds.length := (List.getElem?_eq_some_iff.mp hj).1
  have ix : idxP p ps = some j := idxP_at (fun q hq => eqv_eq (noBs_mem n2 q hq) n1) hp fun i hi z => by
    have hil : i < ds.length := by omega
    obtain ⟨p3, h5, h6⟩ := toPys_get i f3 (List.getElem?_eq_getElem hil)
    rw [z] at h5; cases h5
    have e3 := toPy_inj h6 f1
    have e4 : ds[i] = ds[j] := by rw [e3]; exact (List.getElem?_eq_some_iff.mp hj).2.symm
    have h7 := List.pairwise_iff_getElem.mp hn i j hil hlt hi
    exact h7 e4
  unfold gIndex
  simp only [e1, e2, ix]
  rfl
/-! ### sorted -/
theorem insD_perm {le : D → D → Bool} {x : D} : ∀ {l : List D}, (insD le x l).Perm (x :: l)
  | [] => List.Perm.refl _
  | y :: l => by
    rw [insD]
    split
    · exact List.Perm.refl _
    · exact ((insD_perm (l := l)).cons y).trans (List.Perm.swap ..)
theorem isortD_perm {le : D → D → Bool} : ∀ {l : List D}, (isortD le l).Perm l
  | [] => List.Perm.refl _
  | x :: l => by
    rw [isortD]
    exact insD_perm.trans ((isortD_perm (l := l)).cons x)
theorem leD_int {a b : Int} : leD (.int a) (.int b) = !decide (b < a) := by
  have ea : encD (.int a) = .int a := by unfold encD; rw [toPy]; rfl
  have eb : encD (.int b) = .int b := by unfold encD; rw [toPy]; rfl
  show (!PyProof.Rows.lexLt PyProof.Rows.itemOrd (PySem.W.keyToks (encD (.int b))) (PySem.W.keyToks (encD (.int a)))) = _
  rw [ea, eb, PySem.W.keyToks, PySem.W.keyToks]
  show (!(decide (b < a) || (!decide (a < b) && false))) = _
  simp
def insI (x : Int) : List Int → List Int
  | [] => [x]
  | y :: r => if x ≤ y then x :: y :: r else y :: insI x r
def srtI (ns : List Int) : List Int := ns.foldr insI []
theorem insD_int {x : Int} : ∀ {l : List Int}, insD leD (.int x) (l.map .int) = (insI x l).map .int
  | [] => rfl
  | y :: l => by
    rw [List.map_cons, insD, leD_int, insI]
    by_cases h : x ≤ y
    · rw [if_pos h, if_pos (by simp; omega)]; rfl
    · rw [if_neg h, if_neg (by simp; omega), insD_int]; rfl
theorem isortD_int : ∀ {l : List Int}, isortD leD (l.map .int) = (srtI l).map .int
  | [] => rfl
  | x :: l => by
    rw [List.map_cons, isortD, isortD_int, insD_int]; rfl
theorem toPys_ints : ∀ {l : List Int}, toPys (l.map .int) = some (l.map .int)
  | [] => by rw [List.map_nil, toPys]; rfl
  | x :: l => by rw [List.map_cons, toPys, toPy, toPys_ints]; rfl
theorem sorted_ints {l : List Int} : gSorted [.lst (l.map .int)] = some (.lst ((srtI l).map .int)) := by
  unfold gSorted
  simp only [keysOf]
  unfold sortB
  rw [toPys_ints]
  have h1 : alikeB (l.map PyData.int) = true := by
    unfold alikeB
    rw [List.all_eq_true]
    intro p hp
    rw [List.all_eq_true]
    intro q hq
    obtain ⟨a, _, rfl⟩ := List.mem_map.mp hp
    obtain ⟨b, _, rfl⟩ := List.mem_map.mp hq
    rw [PySem.W.alike]
  have h2 : sortOkB (l.map PyData.int) = true := by
    unfold sortOkB
    rw [Bool.or_eq_true, Bool.or_eq_true]
    refine .inr (.inl ?_)
    rw [List.all_eq_true]
    intro p hp
    obtain ⟨a, _, rfl⟩ := List.mem_map.mp hp
    rfl
  have h3 : ((l.map PyData.int).all fun p => decide (p.depth ≤ 16)) = true := by
    rw [List.all_eq_true]
    intro p hp
    obtain ⟨a, _, rfl⟩ := List.mem_map.mp hp
    rw [PyData.depth]; rfl
  simp only [h1, h2, h3, Bool.and_self, if_true, isortD_int]
  rfl
theorem insI_mem {x z : Int} : ∀ {l : List Int}, z ∈ insI x l ↔ z = x ∨ z ∈ l
  | [] => by simp [insI]
  | y :: r => by
    rw [insI]
    split
    · simp
    · simp [insI_mem (l := r)]; constructor
      · rintro (h | h | h) <;> simp [h]
      · rintro (h | h | h) <;> simp [h]
theorem insI_lt {x : Int} : ∀ {l : List Int}, l.Pairwise (· < ·) → x ∉ l → (insI x l).Pairwise (· < ·)
  | [], _, _ => by simp [insI]
  | y :: r, h, hn => by
    rw [List.pairwise_cons] at h
    rw [List.mem_cons, not_or] at hn
    rw [insI]
    split
    · next e =>
      refine List.pairwise_cons.mpr ⟨fun z hz => ?_, List.pairwise_cons.mpr h⟩
      rcases List.mem_cons.mp hz with rfl | hz
      · have := hn.1; omega
      · have := h.1 z hz; omega
    · next e =>
      refine List.pairwise_cons.mpr ⟨fun z hz => ?_, insI_lt h.2 hn.2⟩
      rcases insI_mem.mp hz with rfl | hz
      · omega
      · exact h.1 z hz
theorem srtI_mem {z : Int} : ∀ {l : List Int}, z ∈ srtI l ↔ z ∈ l
  | [] => by simp [srtI]
  | y :: r => by
    have := srtI_mem (z := z) (l := r)
    unfold srtI at *
    rw [List.foldr_cons, insI_mem, List.mem_cons, this]
theorem srtI_lt : ∀ {l : List Int}, l.Nodup → (srtI l).Pairwise (· < ·)
  | [], _ => List.Pairwise.nil
  | y :: r, h => by
    rw [List.nodup_cons] at h
    have := srtI_lt h.2
    have hm := srtI_mem (z := y) (l := r)
    unfold srtI at *
    rw [List.foldr_cons]
    exact insI_lt this (fun z => h.1 (hm.mp z))
theorem toPys_strs : ∀ {l : List Str}, toPys (l.map .str) = some (l.map .str)
  | [] => by rw [List.map_nil, toPys]; rfl
  | x :: l => by rw [List.map_cons, toPys, toPy, toPys_strs]; rfl
theorem strs_perm {l : List Str} {ds : List D} (h : ds.Perm (l.map .str)) : ∃ l' : List Str, ds = l'.map .str ∧ l'.Perm l := by
  have hs : ∀ d ∈ ds, ∃ x, d = D.str x := fun d hd => by
    obtain ⟨x, _, e⟩ := List.mem_map.mp (h.mem_iff.mp hd)
    exact ⟨x, e.symm⟩
  refine ⟨ds.map fun d => match d with | .str x => x | _ => "", ?_, ?_⟩
  · rw [List.map_map]
    conv => lhs; rw [← List.map_id ds]
    apply List.map_congr_left
    intro d hd
    obtain ⟨x, rfl⟩ := hs d hd
    rfl
  · have := h.map (fun d => match d with | .str x => x | _ => "")
    rw [List.map_map] at this
    have e : (fun d => match d with | D.str x => x | _ => ("" : Str)) ∘ D.str = id := by funext x; rfl
    rw [e, List.map_id] at this
    exact this
theorem sorted_strs {l : List Str} : ∃ l' : List Str, gSorted [.lst (l.map .str)] = some (.lst (l'.map .str)) ∧ l'.Perm l := by
  obtain ⟨l', e, hp⟩ := strs_perm (isortD_perm (le := leD) (l := l.map .str))
  refine ⟨l', ?_, hp⟩
  unfold gSorted
  simp only [keysOf]
  unfold sortB
  rw [toPys_strs]
  have h1 : alikeB (l.map PyData.str) = true := by
    unfold alikeB
    rw [List.all_eq_true]
    intro p hp
    rw [List.all_eq_true]
    intro q hq
    obtain ⟨a, _, rfl⟩ := List.mem_map.mp hp
    obtain ⟨b, _, rfl⟩ := List.mem_map.mp hq
    rw [PySem.W.alike]
  have h2 : sortOkB (l.map PyData.str) = true := by
    unfold sortOkB
    rw [Bool.or_eq_true, Bool.or_eq_true]
    refine .inr (.inl ?_)
    rw [List.all_eq_true]
    intro p hp
    obtain ⟨a, _, rfl⟩ := List.mem_map.mp hp
    rfl
  have h3 : ((l.map PyData.str).all fun p => decide (p.depth ≤ 16)) = true := by
    rw [List.all_eq_true]
    intro p hp
    obtain ⟨a, _, rfl⟩ := List.mem_map.mp hp
    rw [PyData.depth]; rfl
  simp only [h1, h2, h3, Bool.and_self, if_true, e]
  rfl
theorem append_ok {ds : List D} {x : D} (h : ds.length ≤ 100000) : gAppend ds [x] = some (.non, ds ++ [x]) := by
  show (if ds.length < sizeLine then some (D.non, ds ++ [x]) else none) = _
  rw [if_pos]
  rw [sizeLine_eq]; omega
theorem extend_ok {ds xs : List D} (h : ds.length + xs.length ≤ 100000) : gExtend ds [.lst xs] = some (.non, ds ++ xs) := by
  show (if ds.length + xs.length ≤ sizeLine then some (D.non, ds ++ xs) else none) = _
  rw [if_pos]
  rw [sizeLine_eq]; omega
theorem addT_ok {xs ys : List D} (h : xs.length + ys.length ≤ 100000) : gAdd (.tup xs) (.tup ys) = some (.tup (xs ++ ys)) := by
  exact if_pos (fitk h)
theorem addL_ok {xs ys : List D} (h : xs.length + ys.length ≤ 100000) : gAdd (.lst xs) (.lst ys) = some (.lst (xs ++ ys)) := by
  exact if_pos (fitk h)
theorem small_ok {i : Int} (h0 : -1000000 < i) (h1 : i < 1000000) : smallI i = true := by
  unfold smallI
  rw [Bool.and_eq_true, decide_eq_true_eq, decide_eq_true_eq]
  omega
end MI

namespace Lk10
open PySem PySem.Spec L2 MI
def top (i : Nat) : Stmt := PySem.Challenge.pw_strangeseats_k10_rules_and_stands_reache.main.body.getD i (.Pass ⟨0, 0, 0, 0⟩)
/-- what the defs know of the module -/
structure Mod (K : KX) (mg : Str → Option Value) : Prop where
  m_abs : mg "abs" = none
  m_all : mg "all" = none
  m_enumerate : mg "enumerate" = none
  m_int : mg "int" = none
  m_len : mg "len" = none
  m_list : mg "list" = none
  m_max : mg "max" = none
  m_min : mg "min" = none
  m_range : mg "range" = none
  m_set : mg "set" = none
  m_sorted : mg "sorted" = none
  m_tuple : mg "tuple" = none
  m_zip : mg "zip" = none
  g_JOIN : GC K mg "JOIN" (.str "join")
  g_READ_NAME : GC K mg "READ_NAME" (.tup [(.int (-1)), (.int (-1))])
  g_STRANGE : GC K mg "STRANGE" (.int (-1))
section
variable {P : Program} {w : World} {K : PySem.W.Frag} {mg : Str → Option Value} {base : Heap} {cls : Nat → Addr}
abbrev st_cases : Stmt := top 4
theorem sc_cases : FnScope ["frame", "found", "i", "seats", "k"] ["frame"] (defScope st_cases) := ⟨rfl, rfl, rfl, by decide +kernel, rfl, by decide +kernel, by decide +kernel⟩
def d_cases : Den Fl := sSeq (sSet 1 (eLst (aCons (hVal (eC (.tup [(.int (-1)), (.int (-1))]))) (aNil)))) (sSeq (sFor (iEnum (aCons (hVal (eVar 0)) (aNil))) (.tp [.nm 2, .nm 3]) (sDrop (eMut 1 gExtend (aLooks (aCons (hVal (eLc (iRange2 (aCons (hVal (eC (.int (-1)))) (aCons (hVal (eVar 3)) (aNil)))) [4] (.nm 4) (.ret true) (eTup (aCons (hVal (eVar 2)) (aCons (hVal (eVar 4)) (aNil)))))) (aNil)))))) (sFrz 1 (sRet (eFn gTuple (aCons (hVal (eVar 1)) (aNil))))))
def fn_cases : Fn := runFn 5 d_cases
set_option maxRecDepth 100000 in
theorem ok_cases {f : Addr} {fd : FuncData} (C : Mod ⟨K, P, w⟩ mg) (F : FunD K "cases" "cases" (defArgs st_cases) (defBody st_cases) (defScope st_cases) [] [] f fd) :
    FnG P w K mg base 1 f fd ["frame"] (SpD ⟨K, P, w⟩ cls 1 fn_cases) := by
  refine fn_okG (N := ["frame", "found", "i", "seats", "k"]) (ps := ["frame"]) (den := d_cases) (own := ownL [1]) F sc_cases (by decide) fun cdv A outer s H E hr gd => ?_
  have hu : (A.deeper (PyProof.Rows.envOfC "cases" (defScope st_cases) s.heap.objs.size f cdv)).units + 65 < cLine := by have := hr.un; omega
  have h4 := Nat.lt_of_succ_lt hu
  have g0 : (A.deeper (PyProof.Rows.envOfC "cases" (defScope st_cases) s.heap.objs.size f cdv)).guards = some [] := gd
  exact ss_cons (ss_own (i := 1) rfl sc_cases.nd rfl (by first | exact .inl rfl | exact .inr rfl) (sf_lst (sa_cons (sh_val (xg C.g_READ_NAME)) (sa_nil)))) (ss_cons (ss_for PassesOwn.never rfl (si_enum rfl C.m_enumerate (sa_cons (sh_val (xv)) (sa_nil))) (sg_tup rfl (sgs_cons (sg_name (i := 2) rfl sc_cases.nd rfl (by first | exact .inl rfl | exact .inr rfl)) (sgs_cons (sg_name (i := 3) rfl sc_cases.nd rfl (by first | exact .inl rfl | exact .inr rfl)) (sgs_nil))) rfl) (ss_one (ss_expr (se_extend (i := 1) rfl (by first | exact .inl rfl | exact .inr (.inl rfl) | exact .inr (.inr rfl)) rfl (sa_cons (sh_val (se_of (sf_lc (ow := [("k", 4)]) rfl sc_cases.nd (si_range2 rfl C.m_range (sa_cons (sh_val (xg C.g_STRANGE)) (sa_cons (sh_val (xv)) (sa_nil)))) (blkOk_by (by kernel_rfl)) (fun _ _ _ _ _ => sg_name (i := 4) rfl sc_cases.nd rfl (by first | exact .inl rfl | exact .inr rfl)) (fun _ _ _ _ _ => sbs_nil) (fun _ _ _ _ _ => se_tup (sa_cons (sh_val (xv)) (sa_cons (sh_val (xv)) (sa_nil)))) (by decide) (by decide)))) (sa_nil)))))) (ss_frz 1 rfl (ss_one (ss_ret (se_callTy cr_tupleF ok_tuple rfl C.m_tuple bt_tuple (sa_cons (sh_val (xv)) (sa_nil)))))))
abbrev st_join_cases : Stmt := top 5
theorem sc_join_cases : FnScope ["frame", "held", "both", "i", "j"] ["frame"] (defScope st_join_cases) := ⟨rfl, rfl, rfl, by decide +kernel, rfl, by decide +kernel, by decide +kernel⟩
def d_join_cases : Den Fl := sSeq (sSet 1 (eListRg (iRg1 (hVal (eFn gLen (aCons (hVal (eVar 0)) (aNil))))))) (sSeq (sSet 2 (eLc2 (iSeq (eVar 1)) [3, 4] (.nm 3) (.ret true) (iSeq (eVar 1)) [4] (.nm 4) (bOf (eOp gLt (hVal (eVar 3)) (hVal (eVar 4)))) (eTup (aCons (hVal (eVar 3)) (aCons (hVal (eVar 4)) (aNil)))))) (sRet (eFn gTuple (aCons (hVal (eOp gAdd (hVal (eOp gAdd (hVal (eLst (aCons (hVal (eC (.tup [(.int (-1)), (.int (-1))]))) (aNil)))) (hVal (eLc (iSeq (eVar 1)) [3] (.nm 3) (.ret true) (eTup (aCons (hVal (eC (.int (-1)))) (aCons (hVal (eVar 3)) (aNil)))))))) (hVal (eVar 2)))) (aNil)))))
def fn_join_cases : Fn := runFn 5 d_join_cases
set_option maxRecDepth 100000 in
theorem ok_join_cases {f : Addr} {fd : FuncData} (C : Mod ⟨K, P, w⟩ mg) (F : FunD K "join_cases" "join_cases" (defArgs st_join_cases) (defBody st_join_cases) (defScope st_join_cases) [] [] f fd) :
    FnG P w K mg base 1 f fd ["frame"] (SpD ⟨K, P, w⟩ cls 1 fn_join_cases) := by
  refine fn_okG (N := ["frame", "held", "both", "i", "j"]) (ps := ["frame"]) (den := d_join_cases) (own := ownL []) F sc_join_cases (by decide) fun cdv A outer s H E hr gd => ?_
  have hu : (A.deeper (PyProof.Rows.envOfC "join_cases" (defScope st_join_cases) s.heap.objs.size f cdv)).units + 65 < cLine := by have := hr.un; omega
  have h4 := Nat.lt_of_succ_lt hu
  have g0 : (A.deeper (PyProof.Rows.envOfC "join_cases" (defScope st_join_cases) s.heap.objs.size f cdv)).guards = some [] := gd
  exact ss_cons (ss_set (i := 1) rfl sc_join_cases.nd rfl (by first | exact .inl rfl | exact .inr rfl) (se_of (sf_listRg1 rfl rfl C.m_list rfl C.m_range (sh_val (se_callB cr_lenU ok_len rfl C.m_len bt_len (sa_cons (sh_val (xv)) (sa_nil))))))) (ss_cons (ss_setLc2 (i := 2) (ow := [("i", 3), ("j", 4)]) rfl rfl sc_join_cases.nd rfl rfl rfl (si_seq (xv)) (blkOk_by (by kernel_rfl)) (by decide) (fun _ _ _ _ _ => sg_name (i := 3) rfl sc_join_cases.nd rfl (by first | exact .inl rfl | exact .inr rfl)) (fun _ _ _ _ _ => sbs_nil) (fun _ _ _ _ _ => si_seq (xv)) (fun _ _ _ _ _ => sg_name (i := 4) rfl sc_join_cases.nd rfl (by first | exact .inl rfl | exact .inr rfl)) (fun _ _ _ _ _ => sbs_one (sb_cmp op_ltU ok_lt (sh_val (xv)) (sh_val (xv)))) (fun _ _ _ _ _ => se_tup (sa_cons (sh_val (xv)) (sa_cons (sh_val (xv)) (sa_nil)))) (by decide) (by decide) (by decide)) (ss_one (ss_ret (se_callTy cr_tupleF ok_tuple rfl C.m_tuple bt_tuple (sa_cons (sh_val (se_op2 op_addU ok_add (sh_val (se_op2 op_addU ok_add (sh_val (se_of (sf_lst (sa_cons (sh_val (xg C.g_READ_NAME)) (sa_nil))))) (sh_val (se_of (sf_lc (ow := [("i", 3)]) rfl sc_join_cases.nd (si_seq (xv)) (blkOk_by (by kernel_rfl)) (fun _ _ _ _ _ => sg_name (i := 3) rfl sc_join_cases.nd rfl (by first | exact .inl rfl | exact .inr rfl)) (fun _ _ _ _ _ => sbs_nil) (fun _ _ _ _ _ => se_tup (sa_cons (sh_val (xg C.g_STRANGE)) (sa_cons (sh_val (xv)) (sa_nil)))) (by decide) (by decide)))))) (sh_val (xv)))) (sa_nil))))))
abbrev st_reached : Stmt := top 9
theorem sc_reached : FnScope ["machine", "found", "waiting", "goal", "fill", "saying"] ["machine"] (defScope st_reached) := ⟨rfl, rfl, rfl, by decide +kernel, rfl, by decide +kernel, by decide +kernel⟩
def d_reached : Den Fl := sSeq (sMulti [1, 2] (mCons (eLst (aCons (hVal (eC (.int 0))) (aNil))) (mCons (eLst (aCons (hVal (eC (.int 0))) (aNil))) (mNil)))) (sSeq (sWhile (bTru (hSlot 2)) (sFor (iSeq (eOp gIxA (hVal (eOp gIxA (hVal (eOp gIxA (hVal (eVar 0)) (hVal (eC (.int 1))))) (hVal (eMut 2 gPop (.ret []))))) (hVal (eC (.int 1))))) (.tp [.nm 3, .nm 4, .nm 5]) (sIf (bOf (eOp gNotInA (hVal (eVar 3)) (hSlot 1))) (sSeq (sDrop (eMut 1 gAppend (aVals (aCons (hVal (eVar 3)) (aNil))))) (sDrop (eMut 2 gAppend (aVals (aCons (hVal (eVar 3)) (aNil)))))) (sNx))) 100) (sFrz 1 (sRet (eFn gTuple (aCons (hVal (eFn gSorted (aCons (hVal (eVar 1)) (aNil)))) (aNil))))))
def fn_reached : Fn := runFn 6 d_reached
set_option maxRecDepth 100000 in
theorem ok_reached {f : Addr} {fd : FuncData} (C : Mod ⟨K, P, w⟩ mg) (F : FunD K "reached" "reached" (defArgs st_reached) (defBody st_reached) (defScope st_reached) [] [] f fd) :
    FnG P w K mg base 1 f fd ["machine"] (SpD ⟨K, P, w⟩ cls 1 fn_reached) := by
  refine fn_okG (N := ["machine", "found", "waiting", "goal", "fill", "saying"]) (ps := ["machine"]) (den := d_reached) (own := ownL [1, 2]) F sc_reached (by decide) fun cdv A outer s H E hr gd => ?_
  have hu : (A.deeper (PyProof.Rows.envOfC "reached" (defScope st_reached) s.heap.objs.size f cdv)).units + 65 < cLine := by have := hr.un; omega
  have h4 := Nat.lt_of_succ_lt hu
  have g0 : (A.deeper (PyProof.Rows.envOfC "reached" (defScope st_reached) s.heap.objs.size f cdv)).guards = some [] := gd
  exact ss_cons (ss_parM (i := 1) (j := 2) rfl rfl sc_reached.nd rfl rfl (by decide) rfl rfl (sm_new (sf_lst (sa_cons (sh_val (se_int)) (sa_nil))) (sm_new (sf_lst (sa_cons (sh_val (se_int)) (sa_nil))) (sm_nil))) rfl) (ss_cons (ss_while PassesOwn.never (sb_tru (xs)) (ss_one (ss_for PassesOwn.never rfl (si_seq (se_ixA hu (sh_val (se_ixA hu (sh_val (se_ixA hu (sh_val (xv)) (sh_val (se_int)) (by intro _ _; rfl))) (sh_val (se_pop (i := 2) rfl (by first | exact .inl rfl | exact .inr (.inl rfl) | exact .inr (.inr rfl)) rfl)) (by intro _ _; rfl))) (sh_val (se_int)) (by intro _ _; rfl))) (sg_tup rfl (sgs_cons (sg_name (i := 3) rfl sc_reached.nd rfl (by first | exact .inl rfl | exact .inr rfl)) (sgs_cons (sg_name (i := 4) rfl sc_reached.nd rfl (by first | exact .inl rfl | exact .inr rfl)) (sgs_cons (sg_name (i := 5) rfl sc_reached.nd rfl (by first | exact .inl rfl | exact .inr rfl)) (sgs_nil)))) rfl) (ss_one (ss_if (sb_cmp (op_notInA hu) ok_notInA (sh_val (xv)) (xs)) (ss_cons (ss_expr (se_append (i := 1) rfl (by first | exact .inl rfl | exact .inr (.inl rfl) | exact .inr (.inr rfl)) rfl (sa_cons (sh_val (xv)) (sa_nil)))) (ss_one (ss_expr (se_append (i := 2) rfl (by first | exact .inl rfl | exact .inr (.inl rfl) | exact .inr (.inr rfl)) rfl (sa_cons (sh_val (xv)) (sa_nil)))))) (ss_nil)))))) (ss_frz 1 rfl (ss_one (ss_ret (se_callTy cr_tupleF ok_tuple rfl C.m_tuple bt_tuple (sa_cons (sh_val (se_of (sf_callB (cr_sortD rfl hu) ok_sorted rfl C.m_sorted bt_sorted (sa_cons (sh_val (xv)) (sa_nil))))) (sa_nil)))))))
abbrev st__law_hand : Stmt := top 11
theorem sc__law_hand : FnScope ["_law_script", "_law_k", "_law_cell", "_law_great"] ["_law_script", "_law_k"] (defScope st__law_hand) := ⟨rfl, rfl, rfl, by decide +kernel, rfl, by decide +kernel, by decide +kernel⟩
def d__law_hand : Den Fl := sSeq (sSet 2 (eIf (bOf (eOp gLt (hVal (eVar 1)) (hVal (eFn gLen (aCons (hVal (eVar 0)) (aNil)))))) (eOp gIxA (hVal (eVar 0)) (hVal (eVar 1))) (eC (.int 0)))) (sSeq (sSet 3 (eIf (bOf (eOp gGe (hVal (eFn gAbs (aCons (hVal (eVar 2)) (aNil)))) (hVal (eOp gPow (hVal (eC (.int 10))) (hVal (eC (.int 18))))))) (eOp gMod (hVal (eFn gAbs (aCons (hVal (eVar 2)) (aNil)))) (hVal (eOp gMul (hVal (eOp gMul (hVal (eOp gPow (hVal (eC (.int 10))) (hVal (eC (.int 60))))) (hVal (eOp gPow (hVal (eC (.int 10))) (hVal (eC (.int 60))))))) (hVal (eOp gPow (hVal (eC (.int 10))) (hVal (eC (.int 60)))))))) (eC (.int 0)))) (sRet (eShare (eLst (aCons (hVal (eVar 3)) (aCons (hVal (eOp gMod (hVal (eOp gAdd (hVal (eOp gAdd (hVal (eOp gMul (hVal (eOp gMod (hVal (eVar 2)) (hVal (eC (.int 2305843009213693951))))) (hVal (eC (.int 1000033))))) (hVal (eOp gMul (hVal (eC (.int 6857))) (hVal (eVar 1)))))) (hVal (eC (.int 41))))) (hVal (eC (.int 2305843009213693921))))) (aCons (hVal (eC (.int 0))) (aNil))))))))
def fn__law_hand : Fn := runFn 4 d__law_hand
set_option maxRecDepth 100000 in
theorem ok__law_hand {f : Addr} {fd : FuncData} (C : Mod ⟨K, P, w⟩ mg) (F : FunD K "_law_hand" "_law_hand" (defArgs st__law_hand) (defBody st__law_hand) (defScope st__law_hand) [] [] f fd) :
    FnG P w K mg base 1 f fd ["_law_script", "_law_k"] (SpD ⟨K, P, w⟩ cls 2 fn__law_hand) := by
  refine fn_okG (N := ["_law_script", "_law_k", "_law_cell", "_law_great"]) (ps := ["_law_script", "_law_k"]) (den := d__law_hand) (own := ownL []) F sc__law_hand (by decide) fun cdv A outer s H E hr gd => ?_
  have hu : (A.deeper (PyProof.Rows.envOfC "_law_hand" (defScope st__law_hand) s.heap.objs.size f cdv)).units + 65 < cLine := by have := hr.un; omega
  have h4 := Nat.lt_of_succ_lt hu
  have g0 : (A.deeper (PyProof.Rows.envOfC "_law_hand" (defScope st__law_hand) s.heap.objs.size f cdv)).guards = some [] := gd
  exact ss_cons (ss_set (i := 2) rfl sc__law_hand.nd rfl (by first | exact .inl rfl | exact .inr rfl) (se_if (sb_cmp op_ltU ok_lt (sh_val (xv)) (sh_val (se_callB cr_lenU ok_len rfl C.m_len bt_len (sa_cons (sh_val (xv)) (sa_nil))))) (se_ixA hu (sh_val (xv)) (sh_val (xv)) (by intro _ _; rfl)) (se_int))) (ss_cons (ss_set (i := 3) rfl sc__law_hand.nd rfl (by first | exact .inl rfl | exact .inr rfl) (se_if (sb_cmp op_ge ok_I (sh_val (se_callB call_abs ok_abs rfl C.m_abs bt_abs (sa_cons (sh_val (xv)) (sa_nil)))) (sh_val (se_op2 op_pow ok_pow (sh_val (se_int)) (sh_val (se_int))))) (se_op2 op_modN ok_mod (sh_val (se_callB call_abs ok_abs rfl C.m_abs bt_abs (sa_cons (sh_val (xv)) (sa_nil)))) (sh_val (se_op2 op_mulU ok_mul (sh_val (se_op2 op_mulU ok_mul (sh_val (se_op2 op_pow ok_pow (sh_val (se_int)) (sh_val (se_int)))) (sh_val (se_op2 op_pow ok_pow (sh_val (se_int)) (sh_val (se_int)))))) (sh_val (se_op2 op_pow ok_pow (sh_val (se_int)) (sh_val (se_int))))))) (se_int))) (ss_one (ss_ret (se_share (sf_lst (sa_cons (sh_val (xv)) (sa_cons (sh_val (se_op2 op_modN ok_mod (sh_val (se_op2 op_addU ok_add (sh_val (se_op2 op_addU ok_add (sh_val (se_op2 op_mulU ok_mul (sh_val (se_op2 op_modN ok_mod (sh_val (xv)) (sh_val (se_int)))) (sh_val (se_int)))) (sh_val (se_op2 op_mulU ok_mul (sh_val (se_int)) (sh_val (xv)))))) (sh_val (se_int)))) (sh_val (se_int)))) (sa_cons (sh_val (se_int)) (sa_nil)))))))))
abbrev st__law_take : Stmt := top 12
theorem sc__law_take : FnScope ["_law_hand_here", "_law_many", "_law_digit", "_law_turn", "_law_one", "_law_two", "_law_mixed", "_law_last"] ["_law_hand_here", "_law_many"] (defScope st__law_take) := ⟨rfl, rfl, rfl, by decide +kernel, rfl, by decide +kernel, by decide +kernel⟩
def d__law_take : Den Fl := sSeq (sIf (bOf (eOp gGt (hVal (eOp gIxA (hVal (eVar 0)) (hVal (eC (.int 0))))) (hVal (eC (.int 0))))) (sSeq (sSet 2 (eOp gMod (hVal (eOp gIxA (hVal (eVar 0)) (hVal (eC (.int 0))))) (hVal (eVar 1)))) (sSeq (sPutO (eVar 0) (hVal (eC (.int 0))) (eOp gDiv (hVal (eOp gIxA (hVal (eVar 0)) (hVal (eC (.int 0))))) (hVal (eVar 1)))) (sRet (eVar 2)))) (sNx)) (sSeq (sSet 3 (eOp gAdd (hVal (eOp gIxA (hVal (eVar 0)) (hVal (eC (.int 2))))) (hVal (eC (.int 1))))) (sSeq (sPutO (eVar 0) (hVal (eC (.int 2))) (eVar 3)) (sSeq (sSet 4 (eOp gAdd (hVal (eOp gIxA (hVal (eVar 0)) (hVal (eC (.int 1))))) (hVal (eOp gMul (hVal (eC (.int 15485867))) (hVal (eVar 3)))))) (sSeq (sSet 5 (eOp gAdd (hVal (eOp gAdd (hVal (eOp gMod (hVal (eOp gIxA (hVal (eVar 0)) (hVal (eC (.int 1))))) (hVal (eC (.int 7907))))) (hVal (eOp gMul (hVal (eC (.int 32452867))) (hVal (eVar 3)))))) (hVal (eC (.int 19))))) (sSeq (sSet 6 (eOp gMod (hVal (eOp gMul (hVal (eVar 4)) (hVal (eVar 5)))) (hVal (eC (.int 2305843009213693951))))) (sSeq (sSet 7 (eOp gAdd (hVal (eOp gAdd (hVal (eOp gMod (hVal (eVar 6)) (hVal (eC (.int 1000003))))) (hVal (eOp gMul (hVal (eC (.int 6700441))) (hVal (eVar 3)))))) (hVal (eC (.int 7))))) (sRet (eOp gMod (hVal (eOp gDiv (hVal (eOp gMod (hVal (eOp gMul (hVal (eOp gAdd (hVal (eVar 6)) (hVal (eC (.int 11))))) (hVal (eVar 7)))) (hVal (eC (.int 2305843009213693907))))) (hVal (eC (.int 64))))) (hVal (eVar 1))))))))))
def fn__law_take : Fn := runFn 8 d__law_take
set_option maxRecDepth 100000 in
theorem ok__law_take {f : Addr} {fd : FuncData} (C : Mod ⟨K, P, w⟩ mg) (F : FunD K "_law_take" "_law_take" (defArgs st__law_take) (defBody st__law_take) (defScope st__law_take) [] [] f fd) :
    FnG P w K mg base 1 f fd ["_law_hand_here", "_law_many"] (SpD ⟨K, P, w⟩ cls 2 fn__law_take) := by
  refine fn_okG (N := ["_law_hand_here", "_law_many", "_law_digit", "_law_turn", "_law_one", "_law_two", "_law_mixed", "_law_last"]) (ps := ["_law_hand_here", "_law_many"]) (den := d__law_take) (own := ownL []) F sc__law_take (by decide) fun cdv A outer s H E hr gd => ?_
  have hu : (A.deeper (PyProof.Rows.envOfC "_law_take" (defScope st__law_take) s.heap.objs.size f cdv)).units + 65 < cLine := by have := hr.un; omega
  have h4 := Nat.lt_of_succ_lt hu
  have g0 : (A.deeper (PyProof.Rows.envOfC "_law_take" (defScope st__law_take) s.heap.objs.size f cdv)).guards = some [] := gd
  exact ss_cons (ss_if (sb_cmp op_gt ok_I (sh_val (se_ixA hu (sh_val (xv)) (sh_val (se_int)) (by intro _ _; rfl))) (sh_val (se_int))) (ss_cons (ss_set (i := 2) rfl sc__law_take.nd rfl (by first | exact .inl rfl | exact .inr rfl) (se_op2 op_modN ok_mod (sh_val (se_ixA hu (sh_val (xv)) (sh_val (se_int)) (by intro _ _; rfl))) (sh_val (xv)))) (ss_cons (ss_putO hu (xv) (sh_val (se_int)) (se_op2 op_fdivW ok_div (sh_val (se_ixA hu (sh_val (xv)) (sh_val (se_int)) (by intro _ _; rfl))) (sh_val (xv)))) (ss_one (ss_ret (xv))))) (ss_nil)) (ss_cons (ss_set (i := 3) rfl sc__law_take.nd rfl (by first | exact .inl rfl | exact .inr rfl) (se_op2 op_addU ok_add (sh_val (se_ixA hu (sh_val (xv)) (sh_val (se_int)) (by intro _ _; rfl))) (sh_val (se_int)))) (ss_cons (ss_putO hu (xv) (sh_val (se_int)) (xv)) (ss_cons (ss_set (i := 4) rfl sc__law_take.nd rfl (by first | exact .inl rfl | exact .inr rfl) (se_op2 op_addU ok_add (sh_val (se_ixA hu (sh_val (xv)) (sh_val (se_int)) (by intro _ _; rfl))) (sh_val (se_op2 op_mulU ok_mul (sh_val (se_int)) (sh_val (xv)))))) (ss_cons (ss_set (i := 5) rfl sc__law_take.nd rfl (by first | exact .inl rfl | exact .inr rfl) (se_op2 op_addU ok_add (sh_val (se_op2 op_addU ok_add (sh_val (se_op2 op_modN ok_mod (sh_val (se_ixA hu (sh_val (xv)) (sh_val (se_int)) (by intro _ _; rfl))) (sh_val (se_int)))) (sh_val (se_op2 op_mulU ok_mul (sh_val (se_int)) (sh_val (xv)))))) (sh_val (se_int)))) (ss_cons (ss_set (i := 6) rfl sc__law_take.nd rfl (by first | exact .inl rfl | exact .inr rfl) (se_op2 op_modN ok_mod (sh_val (se_op2 op_mulU ok_mul (sh_val (xv)) (sh_val (xv)))) (sh_val (se_int)))) (ss_cons (ss_set (i := 7) rfl sc__law_take.nd rfl (by first | exact .inl rfl | exact .inr rfl) (se_op2 op_addU ok_add (sh_val (se_op2 op_addU ok_add (sh_val (se_op2 op_modN ok_mod (sh_val (xv)) (sh_val (se_int)))) (sh_val (se_op2 op_mulU ok_mul (sh_val (se_int)) (sh_val (xv)))))) (sh_val (se_int)))) (ss_one (ss_ret (se_op2 op_modN ok_mod (sh_val (se_op2 op_fdivW ok_div (sh_val (se_op2 op_modN ok_mod (sh_val (se_op2 op_mulU ok_mul (sh_val (se_op2 op_addU ok_add (sh_val (xv)) (sh_val (se_int)))) (sh_val (xv)))) (sh_val (se_int)))) (sh_val (se_int)))) (sh_val (xv)))))))))))
abbrev st__law_lines : Stmt := top 14
theorem sc__law_lines : FnScope ["_law_terms", "_law_shape", "_law_names", "_law_i", "_law_seats", "_law_k", "_law_found", "_law_term", "_law_spot", "_law_held"] ["_law_terms", "_law_shape"] (defScope st__law_lines) := ⟨rfl, rfl, rfl, by decide +kernel, rfl, by decide +kernel, by decide +kernel⟩
def d__law_lines : Den Fl := sSeq (sSet 2 (eLst (aCons (hVal (eTup (aCons (hVal (eUn gNeg (hVal (eC (.int 1))))) (aCons (hVal (eUn gNeg (hVal (eC (.int 1))))) (aNil))))) (aNil)))) (sSeq (sFor (iEnum (aCons (hVal (eVar 1)) (aNil))) (.tp [.nm 3, .nm 4]) (sDrop (eMut 2 gExtend (aLooks (aCons (hVal (eLc (iRange2 (aCons (hVal (eUn gNeg (hVal (eC (.int 1))))) (aCons (hVal (eVar 4)) (aNil)))) [5] (.nm 5) (.ret true) (eTup (aCons (hVal (eVar 3)) (aCons (hVal (eVar 5)) (aNil)))))) (aNil)))))) (sFrz 2 (sSeq (sSet 6 (eLst (aNil))) (sSeq (sFor (iSeq (eVar 0)) (.nm 7) (sDrop (eMut 6 gExtend (aLooks (aCons (hVal (eLc (iSeq (eVar 2)) [8] (.nm 8) (.ret true) (eTup (aCons (hVal (eVar 7)) (aCons (hVal (eVar 8)) (aNil)))))) (aNil)))))) (sFrz 6 (sSeq (sSet 9 (eOp gAdd (hVal (eOp gAdd (hVal (eLst (aCons (hVal (eTup (aCons (hVal (eUn gNeg (hVal (eC (.int 1))))) (aCons (hVal (eUn gNeg (hVal (eC (.int 1))))) (aNil))))) (aNil)))) (hVal (eLc (iRange1 (aCons (hVal (eFn gLen (aCons (hVal (eVar 1)) (aNil)))) (aNil))) [3] (.nm 3) (.ret true) (eTup (aCons (hVal (eUn gNeg (hVal (eC (.int 1))))) (aCons (hVal (eVar 3)) (aNil)))))))) (hVal (eOp gMul (hVal (eLst (aCons (hVal (eTup (aCons (hVal (eC (.int 0))) (aCons (hVal (eC (.int 1))) (aNil))))) (aNil)))) (hVal (eFn gInt (aCons (hVal (eOp gEq (hVal (eFn gLen (aCons (hVal (eVar 1)) (aNil)))) (hVal (eC (.int 2))))) (aNil)))))))) (sRet (eOp gAdd (hVal (eVar 6)) (hVal (eLc (iSeq (eVar 9)) [8] (.nm 8) (.ret true) (eTup (aCons (hVal (eC (.str "join"))) (aCons (hVal (eVar 8)) (aNil))))))))))))))
def fn__law_lines : Fn := runFn 10 d__law_lines
set_option maxRecDepth 100000 in
theorem ok__law_lines {f : Addr} {fd : FuncData} (C : Mod ⟨K, P, w⟩ mg) (F : FunD K "_law_lines" "_law_lines" (defArgs st__law_lines) (defBody st__law_lines) (defScope st__law_lines) [] [] f fd) :
    FnG P w K mg base 1 f fd ["_law_terms", "_law_shape"] (SpD ⟨K, P, w⟩ cls 2 fn__law_lines) := by
  refine fn_okG (N := ["_law_terms", "_law_shape", "_law_names", "_law_i", "_law_seats", "_law_k", "_law_found", "_law_term", "_law_spot", "_law_held"]) (ps := ["_law_terms", "_law_shape"]) (den := d__law_lines) (own := ownL [2, 6]) F sc__law_lines (by decide) fun cdv A outer s H E hr gd => ?_
  have hu : (A.deeper (PyProof.Rows.envOfC "_law_lines" (defScope st__law_lines) s.heap.objs.size f cdv)).units + 65 < cLine := by have := hr.un; omega
  have h4 := Nat.lt_of_succ_lt hu
  have g0 : (A.deeper (PyProof.Rows.envOfC "_law_lines" (defScope st__law_lines) s.heap.objs.size f cdv)).guards = some [] := gd
  exact ss_cons (ss_own (i := 2) rfl sc__law_lines.nd rfl (by first | exact .inl rfl | exact .inr rfl) (sf_lst (sa_cons (sh_val (se_tup (sa_cons (sh_val (se_un un_neg ok_neg (sh_val (se_int)))) (sa_cons (sh_val (se_un un_neg ok_neg (sh_val (se_int)))) (sa_nil))))) (sa_nil)))) (ss_cons (ss_for PassesOwn.never rfl (si_enum rfl C.m_enumerate (sa_cons (sh_val (xv)) (sa_nil))) (sg_tup rfl (sgs_cons (sg_name (i := 3) rfl sc__law_lines.nd rfl (by first | exact .inl rfl | exact .inr rfl)) (sgs_cons (sg_name (i := 4) rfl sc__law_lines.nd rfl (by first | exact .inl rfl | exact .inr rfl)) (sgs_nil))) rfl) (ss_one (ss_expr (se_extend (i := 2) rfl (by first | exact .inl rfl | exact .inr (.inl rfl) | exact .inr (.inr rfl)) rfl (sa_cons (sh_val (se_of (sf_lc (ow := [("_law_k", 5)]) rfl sc__law_lines.nd (si_range2 rfl C.m_range (sa_cons (sh_val (se_un un_neg ok_neg (sh_val (se_int)))) (sa_cons (sh_val (xv)) (sa_nil)))) (blkOk_by (by kernel_rfl)) (fun _ _ _ _ _ => sg_name (i := 5) rfl sc__law_lines.nd rfl (by first | exact .inl rfl | exact .inr rfl)) (fun _ _ _ _ _ => sbs_nil) (fun _ _ _ _ _ => se_tup (sa_cons (sh_val (xv)) (sa_cons (sh_val (xv)) (sa_nil)))) (by decide) (by decide)))) (sa_nil)))))) (ss_frz 2 rfl (ss_cons (ss_own (i := 6) rfl sc__law_lines.nd rfl (by first | exact .inl rfl | exact .inr rfl) (sf_lst (sa_nil))) (ss_cons (ss_for PassesOwn.never rfl (si_seq (xv)) (sg_name (i := 7) rfl sc__law_lines.nd rfl (by first | exact .inl rfl | exact .inr rfl)) (ss_one (ss_expr (se_extend (i := 6) rfl (by first | exact .inl rfl | exact .inr (.inl rfl) | exact .inr (.inr rfl)) rfl (sa_cons (sh_val (se_of (sf_lc (ow := [("_law_spot", 8)]) rfl sc__law_lines.nd (si_seq (xv)) (blkOk_by (by kernel_rfl)) (fun _ _ _ _ _ => sg_name (i := 8) rfl sc__law_lines.nd rfl (by first | exact .inl rfl | exact .inr rfl)) (fun _ _ _ _ _ => sbs_nil) (fun _ _ _ _ _ => se_tup (sa_cons (sh_val (xv)) (sa_cons (sh_val (xv)) (sa_nil)))) (by decide) (by decide)))) (sa_nil)))))) (ss_frz 6 rfl (ss_cons (ss_set (i := 9) rfl sc__law_lines.nd rfl (by first | exact .inl rfl | exact .inr rfl) (se_op2 op_addU ok_add (sh_val (se_op2 op_addU ok_add (sh_val (se_of (sf_lst (sa_cons (sh_val (se_tup (sa_cons (sh_val (se_un un_neg ok_neg (sh_val (se_int)))) (sa_cons (sh_val (se_un un_neg ok_neg (sh_val (se_int)))) (sa_nil))))) (sa_nil))))) (sh_val (se_of (sf_lc (ow := [("_law_i", 3)]) rfl sc__law_lines.nd (si_range1 rfl C.m_range (sa_cons (sh_val (se_callB cr_lenU ok_len rfl C.m_len bt_len (sa_cons (sh_val (xv)) (sa_nil)))) (sa_nil))) (blkOk_by (by kernel_rfl)) (fun _ _ _ _ _ => sg_name (i := 3) rfl sc__law_lines.nd rfl (by first | exact .inl rfl | exact .inr rfl)) (fun _ _ _ _ _ => sbs_nil) (fun _ _ _ _ _ => se_tup (sa_cons (sh_val (se_un un_neg ok_neg (sh_val (se_int)))) (sa_cons (sh_val (xv)) (sa_nil)))) (by decide) (by decide)))))) (sh_val (se_op2 op_mulU ok_mul (sh_val (se_of (sf_lst (sa_cons (sh_val (se_tup (sa_cons (sh_val (se_int)) (sa_cons (sh_val (se_int)) (sa_nil))))) (sa_nil))))) (sh_val (se_callTy call_int1 ok_int rfl C.m_int bt_int (sa_cons (sh_val (se_cmp (op_eqD h4) ok_eqD (sh_val (se_callB cr_lenU ok_len rfl C.m_len bt_len (sa_cons (sh_val (xv)) (sa_nil)))) (sh_val (se_int)))) (sa_nil)))))))) (ss_one (ss_ret (se_op2 op_addU ok_add (sh_val (xv)) (sh_val (se_of (sf_lc (ow := [("_law_spot", 8)]) rfl sc__law_lines.nd (si_seq (xv)) (blkOk_by (by kernel_rfl)) (fun _ _ _ _ _ => sg_name (i := 8) rfl sc__law_lines.nd rfl (by first | exact .inl rfl | exact .inr rfl)) (fun _ _ _ _ _ => sbs_nil) (fun _ _ _ _ _ => se_tup (sa_cons (sh_val (se_str)) (sa_cons (sh_val (xv)) (sa_nil)))) (by decide) (by decide)))))))))))))
abbrev st__law_there : Stmt := top 15
theorem sc__law_there : FnScope ["_law_shape", "_law_term", "_law_spot", "_law_found", "_law_i", "_law_seats", "_law_k"] ["_law_shape", "_law_term", "_law_spot"] (defScope st__law_there) := ⟨rfl, rfl, rfl, by decide +kernel, rfl, by decide +kernel, by decide +kernel⟩
def d__law_there : Den Fl := sSeq (sSet 3 (eC (.dit []))) (sSeq (sFor (iEnum (aCons (hVal (eVar 0)) (aNil))) (.tp [.nm 4, .nm 5]) (sPut 3 (hVal (eTup (aCons (hVal (eVar 4)) (aNil)))) (eLc (iRange1 (aCons (hVal (eVar 5)) (aNil))) [6] (.nm 6) (.ret true) (eTup (aCons (hVal (eVar 4)) (aCons (hVal (eVar 6)) (aNil))))))) (sSeq (sIf (bOf (eOp gEq (hVal (eVar 1)) (hVal (eC (.str "join"))))) (sIf (bOf (eOp gGe (hVal (eOp gIxA (hVal (eVar 2)) (hVal (eC (.int 0))))) (hVal (eC (.int 0))))) (sPut 3 (hVal (eTup (aCons (hVal (eOp gIxA (hVal (eVar 2)) (hVal (eC (.int 0))))) (aNil)))) (eOp gAdd (hVal (eOp gIxA (hSlot 3) (hVal (eTup (aCons (hVal (eOp gIxA (hVal (eVar 2)) (hVal (eC (.int 0))))) (aNil)))))) (hVal (ePopN 3 (aCons (hVal (eTup (aCons (hVal (eOp gIxA (hVal (eVar 2)) (hVal (eC (.int 1))))) (aNil)))) (aNil)))))) (sIf (bOf (eOp gLt (hVal (eOp gIxA (hVal (eVar 2)) (hVal (eC (.int 1))))) (hVal (eC (.int 0))))) (sPut 3 (hVal (eTup (aCons (hVal (eUn gNeg (hVal (eC (.int 1))))) (aNil)))) (eLst (aNil))) (sNx))) (sIf (bOf (eOp gEq (hVal (eVar 2)) (hVal (eTup (aCons (hVal (eUn gNeg (hVal (eC (.int 1))))) (aCons (hVal (eUn gNeg (hVal (eC (.int 1))))) (aNil))))))) (sPut 3 (hVal (eTup (aCons (hVal (eUn gNeg (hVal (eC (.int 1))))) (aNil)))) (eLst (aCons (hVal (eTup (aCons (hVal (eUn gNeg (hVal (eC (.int 1))))) (aCons (hVal (eUn gNeg (hVal (eC (.int 1))))) (aNil))))) (aNil)))) (sIf (bOf (eOp gEq (hVal (eOp gIxA (hVal (eVar 2)) (hVal (eC (.int 1))))) (hVal (eUn gNeg (hVal (eC (.int 1))))))) (sPut 3 (hVal (eTup (aCons (hVal (eOp gIxA (hVal (eVar 2)) (hVal (eC (.int 0))))) (aNil)))) (eOp gAdd (hVal (eLst (aCons (hVal (eVar 2)) (aNil)))) (hVal (eOp gIxA (hSlot 3) (hVal (eTup (aCons (hVal (eOp gIxA (hVal (eVar 2)) (hVal (eC (.int 0))))) (aNil)))))))) (sNx)))) (sFrz 3 (sRet (eVar 3)))))
def fn__law_there : Fn := runFn 7 d__law_there
set_option maxRecDepth 100000 in
theorem ok__law_there {f : Addr} {fd : FuncData} (C : Mod ⟨K, P, w⟩ mg) (F : FunD K "_law_there" "_law_there" (defArgs st__law_there) (defBody st__law_there) (defScope st__law_there) [] [] f fd) :
    FnG P w K mg base 1 f fd ["_law_shape", "_law_term", "_law_spot"] (SpD ⟨K, P, w⟩ cls 3 fn__law_there) := by
  refine fn_okG (N := ["_law_shape", "_law_term", "_law_spot", "_law_found", "_law_i", "_law_seats", "_law_k"]) (ps := ["_law_shape", "_law_term", "_law_spot"]) (den := d__law_there) (own := ownL [3]) F sc__law_there (by decide) fun cdv A outer s H E hr gd => ?_
  have hu : (A.deeper (PyProof.Rows.envOfC "_law_there" (defScope st__law_there) s.heap.objs.size f cdv)).units + 65 < cLine := by have := hr.un; omega
  have h4 := Nat.lt_of_succ_lt hu
  have g0 : (A.deeper (PyProof.Rows.envOfC "_law_there" (defScope st__law_there) s.heap.objs.size f cdv)).guards = some [] := gd
  exact ss_cons (ss_own (i := 3) rfl sc__law_there.nd rfl (by first | exact .inl rfl | exact .inr rfl) (sf_dit)) (ss_cons (ss_for PassesOwn.never rfl (si_enum rfl C.m_enumerate (sa_cons (sh_val (xv)) (sa_nil))) (sg_tup rfl (sgs_cons (sg_name (i := 4) rfl sc__law_there.nd rfl (by first | exact .inl rfl | exact .inr rfl)) (sgs_cons (sg_name (i := 5) rfl sc__law_there.nd rfl (by first | exact .inl rfl | exact .inr rfl)) (sgs_nil))) rfl) (ss_one (ss_put hu (i := 3) rfl (by first | exact .inl rfl | exact .inr (.inl rfl) | exact .inr (.inr rfl)) rfl (sh_val (se_tup (sa_cons (sh_val (xv)) (sa_nil)))) (se_of (sf_lc (ow := [("_law_k", 6)]) rfl sc__law_there.nd (si_range1 rfl C.m_range (sa_cons (sh_val (xv)) (sa_nil))) (blkOk_by (by kernel_rfl)) (fun _ _ _ _ _ => sg_name (i := 6) rfl sc__law_there.nd rfl (by first | exact .inl rfl | exact .inr rfl)) (fun _ _ _ _ _ => sbs_nil) (fun _ _ _ _ _ => se_tup (sa_cons (sh_val (xv)) (sa_cons (sh_val (xv)) (sa_nil)))) (by decide) (by decide)))))) (ss_cons (ss_if (sb_cmp (op_eqD h4) ok_eqD (sh_val (xv)) (sh_val (se_str))) (ss_one (ss_if (sb_cmp op_ge ok_I (sh_val (se_ixA hu (sh_val (xv)) (sh_val (se_int)) (by intro _ _; rfl))) (sh_val (se_int))) (ss_one (ss_put hu (i := 3) rfl (by first | exact .inl rfl | exact .inr (.inl rfl) | exact .inr (.inr rfl)) rfl (sh_val (se_tup (sa_cons (sh_val (se_ixA hu (sh_val (xv)) (sh_val (se_int)) (by intro _ _; rfl))) (sa_nil)))) (se_op2 op_addU ok_add (sh_val (se_ixA hu (xs) (sh_val (se_tup (sa_cons (sh_val (se_ixA hu (sh_val (xv)) (sh_val (se_int)) (by intro _ _; rfl))) (sa_nil)))) (by intro _ _; rfl))) (sh_val (se_popN hu (i := 3) rfl (by first | exact .inl rfl | exact .inr (.inl rfl) | exact .inr (.inr rfl)) rfl (sa_cons (sh_val (se_tup (sa_cons (sh_val (se_ixA hu (sh_val (xv)) (sh_val (se_int)) (by intro _ _; rfl))) (sa_nil)))) (sa_nil))))))) (ss_one (ss_if (sb_cmp op_ltU ok_lt (sh_val (se_ixA hu (sh_val (xv)) (sh_val (se_int)) (by intro _ _; rfl))) (sh_val (se_int))) (ss_one (ss_put hu (i := 3) rfl (by first | exact .inl rfl | exact .inr (.inl rfl) | exact .inr (.inr rfl)) rfl (sh_val (se_tup (sa_cons (sh_val (se_un un_neg ok_neg (sh_val (se_int)))) (sa_nil)))) (se_of (sf_lst (sa_nil))))) (ss_nil))))) (ss_one (ss_if (sb_cmp (op_eqD h4) ok_eqD (sh_val (xv)) (sh_val (se_tup (sa_cons (sh_val (se_un un_neg ok_neg (sh_val (se_int)))) (sa_cons (sh_val (se_un un_neg ok_neg (sh_val (se_int)))) (sa_nil)))))) (ss_one (ss_put hu (i := 3) rfl (by first | exact .inl rfl | exact .inr (.inl rfl) | exact .inr (.inr rfl)) rfl (sh_val (se_tup (sa_cons (sh_val (se_un un_neg ok_neg (sh_val (se_int)))) (sa_nil)))) (se_of (sf_lst (sa_cons (sh_val (se_tup (sa_cons (sh_val (se_un un_neg ok_neg (sh_val (se_int)))) (sa_cons (sh_val (se_un un_neg ok_neg (sh_val (se_int)))) (sa_nil))))) (sa_nil)))))) (ss_one (ss_if (sb_cmp (op_eqD h4) ok_eqD (sh_val (se_ixA hu (sh_val (xv)) (sh_val (se_int)) (by intro _ _; rfl))) (sh_val (se_un un_neg ok_neg (sh_val (se_int))))) (ss_one (ss_put hu (i := 3) rfl (by first | exact .inl rfl | exact .inr (.inl rfl) | exact .inr (.inr rfl)) rfl (sh_val (se_tup (sa_cons (sh_val (se_ixA hu (sh_val (xv)) (sh_val (se_int)) (by intro _ _; rfl))) (sa_nil)))) (se_op2 op_addU ok_add (sh_val (se_of (sf_lst (sa_cons (sh_val (xv)) (sa_nil))))) (sh_val (se_ixA hu (xs) (sh_val (se_tup (sa_cons (sh_val (se_ixA hu (sh_val (xv)) (sh_val (se_int)) (by intro _ _; rfl))) (sa_nil)))) (by intro _ _; rfl)))))) (ss_nil)))))) (ss_frz 3 rfl (ss_one (ss_ret (xv))))))
abbrev st__law_fills : Stmt := top 16
theorem sc__law_fills : FnScope ["_law_shape", "_law_there_here", "_law_rows", "_law_seats", "_law_longer", "_law_row", "_law_wide", "_law_house"] ["_law_shape", "_law_there_here"] (defScope st__law_fills) := ⟨rfl, rfl, rfl, by decide +kernel, rfl, by decide +kernel, by decide +kernel⟩
def d__law_fills : Den Fl := sSeq (sSet 2 (eLst (aCons (hVal (eTup (aNil))) (aNil)))) (sSeq (sFor (iSeq (eVar 0)) (.nm 3) (sSeq (sSet 4 (eLst (aNil))) (sSeq (sFor (iSeq (eVar 2)) (.nm 5) (sSeq (sSet 6 (eLc (iSeq (eFn gSorted (aCons (hVal (eVar 1)) (aNil)))) [7] (.nm 7) (bOf (eOp gGe (hVal (eFn gLen (aCons (hVal (eOp gIxA (hVal (eVar 1)) (hVal (eVar 7)))) (aNil)))) (hVal (eVar 3)))) (eVar 7))) (sDrop (eMut 4 gExtend (aLooks (aCons (hVal (eLc (iSeq (eVar 6)) [7] (.nm 7) (bOf (eOp gNotInA (hVal (eVar 7)) (hVal (eVar 5)))) (eOp gAdd (hVal (eVar 5)) (hVal (eTup (aCons (hVal (eVar 7)) (aNil))))))) (aNil))))))) (sFrz 4 (sSet 2 (eVar 4)))))) (sRet (eVar 2)))
def fn__law_fills : Fn := runFn 8 d__law_fills
set_option maxRecDepth 100000 in
theorem ok__law_fills {f : Addr} {fd : FuncData} (C : Mod ⟨K, P, w⟩ mg) (F : FunD K "_law_fills" "_law_fills" (defArgs st__law_fills) (defBody st__law_fills) (defScope st__law_fills) [] [] f fd) :
    FnG P w K mg base 1 f fd ["_law_shape", "_law_there_here"] (SpD ⟨K, P, w⟩ cls 2 fn__law_fills) := by
  refine fn_okG (N := ["_law_shape", "_law_there_here", "_law_rows", "_law_seats", "_law_longer", "_law_row", "_law_wide", "_law_house"]) (ps := ["_law_shape", "_law_there_here"]) (den := d__law_fills) (own := ownL [4]) F sc__law_fills (by decide) fun cdv A outer s H E hr gd => ?_
  have hu : (A.deeper (PyProof.Rows.envOfC "_law_fills" (defScope st__law_fills) s.heap.objs.size f cdv)).units + 65 < cLine := by have := hr.un; omega
  have h4 := Nat.lt_of_succ_lt hu
  have g0 : (A.deeper (PyProof.Rows.envOfC "_law_fills" (defScope st__law_fills) s.heap.objs.size f cdv)).guards = some [] := gd
  exact ss_cons (ss_set (i := 2) rfl sc__law_fills.nd rfl (by first | exact .inl rfl | exact .inr rfl) (se_of (sf_lst (sa_cons (sh_val (se_tup (sa_nil))) (sa_nil))))) (ss_cons (ss_for PassesOwn.never rfl (si_seq (xv)) (sg_name (i := 3) rfl sc__law_fills.nd rfl (by first | exact .inl rfl | exact .inr rfl)) (ss_cons (ss_own (i := 4) rfl sc__law_fills.nd rfl (by first | exact .inl rfl | exact .inr rfl) (sf_lst (sa_nil))) (ss_cons (ss_for PassesOwn.never rfl (si_seq (xv)) (sg_name (i := 5) rfl sc__law_fills.nd rfl (by first | exact .inl rfl | exact .inr rfl)) (ss_cons (ss_setLc (i := 6) (ow := [("_law_house", 7)]) rfl rfl sc__law_fills.nd rfl rfl rfl (si_seq (se_of (sf_callB (cr_sortD rfl hu) ok_sorted rfl C.m_sorted bt_sorted (sa_cons (sh_val (xv)) (sa_nil))))) (blkOk_by (by kernel_rfl)) (fun _ _ _ _ _ => sg_name (i := 7) rfl sc__law_fills.nd rfl (by first | exact .inl rfl | exact .inr rfl)) (fun _ _ _ _ _ => sbs_one (sb_cmp op_ge ok_I (sh_val (se_callB cr_lenU ok_len rfl C.m_len bt_len (sa_cons (sh_val (se_ixA hu (sh_val (xv)) (sh_val (xv)) (by intro _ _; rfl))) (sa_nil)))) (sh_val (xv)))) (fun _ _ _ _ _ => xv) (by decide) (by decide)) (ss_one (ss_expr (se_extend (i := 4) rfl (by first | exact .inl rfl | exact .inr (.inl rfl) | exact .inr (.inr rfl)) rfl (sa_cons (sh_val (se_of (sf_lc (ow := [("_law_house", 7)]) rfl sc__law_fills.nd (si_seq (xv)) (blkOk_by (by kernel_rfl)) (fun _ _ _ _ _ => sg_name (i := 7) rfl sc__law_fills.nd rfl (by first | exact .inl rfl | exact .inr rfl)) (fun _ _ _ _ _ => sbs_one (sb_cmp (op_notInA hu) ok_notInA (sh_val (xv)) (sh_val (xv)))) (fun _ _ _ _ _ => se_op2 op_addU ok_add (sh_val (xv)) (sh_val (se_tup (sa_cons (sh_val (xv)) (sa_nil))))) (by decide) (by decide)))) (sa_nil))))))) (ss_frz 4 rfl (ss_one (ss_set (i := 2) rfl sc__law_fills.nd rfl (by first | exact .inl rfl | exact .inr rfl) (xv))))))) (ss_one (ss_ret (xv))))
abbrev st__law_reached : Stmt := top 22
theorem sc__law_reached : FnScope ["_law_made", "_law_found", "_law_turn", "_law_at", "_law_goal", "_law_fill", "_law_saying"] ["_law_made"] (defScope st__law_reached) := ⟨rfl, rfl, rfl, by decide +kernel, rfl, by decide +kernel, by decide +kernel⟩
def d__law_reached : Den Fl := sSeq (sSet 1 (eLst (aCons (hVal (eC (.int 0))) (aNil)))) (sSeq (sFor (iRange1 (aCons (hVal (eFn gLen (aCons (hVal (eOp gIxA (hVal (eVar 0)) (hVal (eC (.int 1))))) (aNil)))) (aNil))) (.nm 2) (sFor (iSeq (eFn gList (aCons (hSlot 1) (aNil)))) (.nm 3) (sDrop (eMut 1 gExtend (aLooks (aCons (hVal (eLc (iSeq (eOp gIxA (hVal (eOp gIxA (hVal (eOp gIxA (hVal (eVar 0)) (hVal (eC (.int 1))))) (hVal (eVar 3)))) (hVal (eC (.int 1))))) [4, 5, 6] (.tp [.nm 4, .nm 5, .nm 6]) (bOf (eOp gNotInA (hVal (eVar 4)) (hSlot 1))) (eVar 4))) (aNil))))))) (sFrz 1 (sRet (eFn gTuple (aCons (hVal (eSortSet (hVal (eVar 1)))) (aNil))))))
def fn__law_reached : Fn := runFn 7 d__law_reached
set_option maxRecDepth 100000 in
theorem ok__law_reached {f : Addr} {fd : FuncData} (C : Mod ⟨K, P, w⟩ mg) (F : FunD K "_law_reached" "_law_reached" (defArgs st__law_reached) (defBody st__law_reached) (defScope st__law_reached) [] [] f fd) :
    FnG P w K mg base 1 f fd ["_law_made"] (SpD ⟨K, P, w⟩ cls 1 fn__law_reached) := by
  refine fn_okG (N := ["_law_made", "_law_found", "_law_turn", "_law_at", "_law_goal", "_law_fill", "_law_saying"]) (ps := ["_law_made"]) (den := d__law_reached) (own := ownL [1]) F sc__law_reached (by decide) fun cdv A outer s H E hr gd => ?_
  have hu : (A.deeper (PyProof.Rows.envOfC "_law_reached" (defScope st__law_reached) s.heap.objs.size f cdv)).units + 65 < cLine := by have := hr.un; omega
  have h4 := Nat.lt_of_succ_lt hu
  have g0 : (A.deeper (PyProof.Rows.envOfC "_law_reached" (defScope st__law_reached) s.heap.objs.size f cdv)).guards = some [] := gd
  exact ss_cons (ss_own (i := 1) rfl sc__law_reached.nd rfl (by first | exact .inl rfl | exact .inr rfl) (sf_lst (sa_cons (sh_val (se_int)) (sa_nil)))) (ss_cons (ss_for PassesOwn.never rfl (si_range1 rfl C.m_range (sa_cons (sh_val (se_callB cr_lenU ok_len rfl C.m_len bt_len (sa_cons (sh_val (se_ixA hu (sh_val (xv)) (sh_val (se_int)) (by intro _ _; rfl))) (sa_nil)))) (sa_nil))) (sg_name (i := 2) rfl sc__law_reached.nd rfl (by first | exact .inl rfl | exact .inr rfl)) (ss_one (ss_for PassesOwn.never rfl (si_seq (se_of (sf_callTy call_list_of ok_list rfl C.m_list bt_list (sa_cons (xs) (sa_nil))))) (sg_name (i := 3) rfl sc__law_reached.nd rfl (by first | exact .inl rfl | exact .inr rfl)) (ss_one (ss_expr (se_extend (i := 1) rfl (by first | exact .inl rfl | exact .inr (.inl rfl) | exact .inr (.inr rfl)) rfl (sa_cons (sh_val (se_of (sf_lc (ow := [("_law_goal", 4), ("_law_fill", 5), ("_law_saying", 6)]) rfl sc__law_reached.nd (si_seq (se_ixA hu (sh_val (se_ixA hu (sh_val (se_ixA hu (sh_val (xv)) (sh_val (se_int)) (by intro _ _; rfl))) (sh_val (xv)) (by intro _ _; rfl))) (sh_val (se_int)) (by intro _ _; rfl))) (blkOk_by (by kernel_rfl)) (fun _ _ _ _ _ => sg_tup rfl (sgs_cons (sg_name (i := 4) rfl sc__law_reached.nd rfl (by first | exact .inl rfl | exact .inr rfl)) (sgs_cons (sg_name (i := 5) rfl sc__law_reached.nd rfl (by first | exact .inl rfl | exact .inr rfl)) (sgs_cons (sg_name (i := 6) rfl sc__law_reached.nd rfl (by first | exact .inl rfl | exact .inr rfl)) (sgs_nil)))) rfl) (fun _ _ _ _ _ => sbs_one (sb_cmp (op_notInA hu) ok_notInA (sh_val (xv)) (xs))) (fun _ _ _ _ _ => xv) (by decide) (by decide)))) (sa_nil)))))))) (ss_frz 1 rfl (ss_one (ss_ret (se_callTy cr_tupleF ok_tuple rfl C.m_tuple bt_tuple (sa_cons (sh_val (se_of (sf_sortSet rfl rfl C.m_sorted rfl C.m_set (sh_val (xv))))) (sa_nil)))))))
abbrev st_lines_of : Stmt := top 7
theorem sc_lines_of : FnScope ["words", "frame", "found", "word", "case"] ["words", "frame"] (defScope st_lines_of) := ⟨rfl, rfl, rfl, by decide +kernel, rfl, by decide +kernel, by decide +kernel⟩
def d_lines_of : Den Fl := sSeq (sSet 2 (eLc2 (iSeq (eVar 0)) [3, 4] (.nm 3) (.ret true) (iSeq (eCallK fn_cases [.p 0] [] (aVals (aCons (hVal (eVar 1)) (aNil))) (aVals (aNil)))) [4] (.nm 4) (.ret true) (eTup (aCons (hVal (eVar 3)) (aCons (hVal (eVar 4)) (aNil)))))) (sRet (eFn gTuple (aCons (hVal (eOp gAdd (hVal (eVar 2)) (hVal (eLc (iSeq (eCallK fn_join_cases [.p 0] [] (aVals (aCons (hVal (eVar 1)) (aNil))) (aVals (aNil)))) [4] (.nm 4) (.ret true) (eTup (aCons (hVal (eC (.str "join"))) (aCons (hVal (eVar 4)) (aNil)))))))) (aNil))))
def fn_lines_of : Fn := runFn 5 d_lines_of
set_option maxRecDepth 100000 in
theorem ok_lines_of {f : Addr} {fd : FuncData} (C : Mod ⟨K, P, w⟩ mg) (F : FunD K "lines_of" "lines_of" (defArgs st_lines_of) (defBody st_lines_of) (defScope st_lines_of) [] [] f fd)
    {f_cases : Addr} {fd_cases : FuncData} (D_cases : DefG P w K mg base cls 1 "cases" f_cases fd_cases ["frame"] fn_cases)
    {f_join_cases : Addr} {fd_join_cases : FuncData} (D_join_cases : DefG P w K mg base cls 1 "join_cases" f_join_cases fd_join_cases ["frame"] fn_join_cases)
    {mv0 : List Value} (b0 : KBn K fd_cases ["frame"] 1 [] (fun us ws => arr [.p 0] us mv0 ws) (fun vs zs => arr [.p 0] vs [] zs))
    {mv1 : List Value} (b1 : KBn K fd_join_cases ["frame"] 1 [] (fun us ws => arr [.p 0] us mv1 ws) (fun vs zs => arr [.p 0] vs [] zs)) :
    FnG P w K mg base 2 f fd ["words", "frame"] (SpD ⟨K, P, w⟩ cls 2 fn_lines_of) := by
  refine fn_okG (N := ["words", "frame", "found", "word", "case"]) (ps := ["words", "frame"]) (den := d_lines_of) (own := ownL []) F sc_lines_of (by decide) fun cdv A outer s H E hr gd => ?_
  have hu : (A.deeper (PyProof.Rows.envOfC "lines_of" (defScope st_lines_of) s.heap.objs.size f cdv)).units + 65 < cLine := by have := hr.un; omega
  have h4 := Nat.lt_of_succ_lt hu
  have g0 : (A.deeper (PyProof.Rows.envOfC "lines_of" (defScope st_lines_of) s.heap.objs.size f cdv)).guards = some [] := gd
  exact ss_cons (ss_setLc2 (i := 2) (ow := [("word", 3), ("case", 4)]) rfl rfl sc_lines_of.nd rfl rfl rfl (si_seq (xv)) (blkOk_by (by kernel_rfl)) (by decide) (fun _ _ _ _ _ => sg_name (i := 3) rfl sc_lines_of.nd rfl (by first | exact .inl rfl | exact .inr rfl)) (fun _ _ _ _ _ => sbs_nil) (fun _ _ _ _ _ => si_seq (yc D_cases hr g0 b0 .nil (sa_cons (sh_val (xv)) (sa_nil)) (sk_nil) (fun vs zs l1 l2 => match vs, zs, l1, l2 with | [_], [], _, _ => rfl) (fun _ _ _ h => aCons_len (fun _ _ _ h => aNil_len h) h) (fun _ _ _ h => aNil_len h))) (fun _ _ _ _ _ => sg_name (i := 4) rfl sc_lines_of.nd rfl (by first | exact .inl rfl | exact .inr rfl)) (fun _ _ _ _ _ => sbs_nil) (fun _ _ _ _ _ => se_tup (sa_cons (sh_val (xv)) (sa_cons (sh_val (xv)) (sa_nil)))) (by decide) (by decide) (by decide)) (ss_one (ss_ret (se_callTy cr_tupleF ok_tuple rfl C.m_tuple bt_tuple (sa_cons (sh_val (se_op2 op_addU ok_add (sh_val (xv)) (sh_val (se_of (sf_lc (ow := [("case", 4)]) rfl sc_lines_of.nd (si_seq (yc D_join_cases hr g0 b1 .nil (sa_cons (sh_val (xv)) (sa_nil)) (sk_nil) (fun vs zs l1 l2 => match vs, zs, l1, l2 with | [_], [], _, _ => rfl) (fun _ _ _ h => aCons_len (fun _ _ _ h => aNil_len h) h) (fun _ _ _ h => aNil_len h))) (blkOk_by (by kernel_rfl)) (fun _ _ _ _ _ => sg_name (i := 4) rfl sc_lines_of.nd rfl (by first | exact .inl rfl | exact .inr rfl)) (fun _ _ _ _ _ => sbs_nil) (fun _ _ _ _ _ => se_tup (sa_cons (sh_val (xg C.g_JOIN)) (sa_cons (sh_val (xv)) (sa_nil)))) (by decide) (by decide)))))) (sa_nil)))))
abbrev st__law_pick : Stmt := top 13
theorem sc__law_pick : FnScope ["_law_hand_here", "_law_some_here"] ["_law_hand_here", "_law_some_here"] (defScope st__law_pick) := ⟨rfl, rfl, rfl, by decide +kernel, rfl, by decide +kernel, by decide +kernel⟩
def d__law_pick : Den Fl := sRet (eOp gIxA (hVal (eVar 1)) (hVal (eCallK fn__law_take [.p 0, .p 1] [] (aVals (aCons (hVal (eVar 0)) (aCons (hVal (eFn gLen (aCons (hVal (eVar 1)) (aNil)))) (aNil)))) (aVals (aNil)))))
def fn__law_pick : Fn := runFn 2 d__law_pick
set_option maxRecDepth 100000 in
theorem ok__law_pick {f : Addr} {fd : FuncData} (C : Mod ⟨K, P, w⟩ mg) (F : FunD K "_law_pick" "_law_pick" (defArgs st__law_pick) (defBody st__law_pick) (defScope st__law_pick) [] [] f fd)
    {f__law_take : Addr} {fd__law_take : FuncData} (D__law_take : DefG P w K mg base cls 1 "_law_take" f__law_take fd__law_take ["_law_hand_here", "_law_many"] fn__law_take)
    {mv3 : List Value} (b3 : KBn K fd__law_take ["_law_hand_here", "_law_many"] 2 [] (fun us ws => arr [.p 0, .p 1] us mv3 ws) (fun vs zs => arr [.p 0, .p 1] vs [] zs)) :
    FnG P w K mg base 2 f fd ["_law_hand_here", "_law_some_here"] (SpD ⟨K, P, w⟩ cls 2 fn__law_pick) := by
  refine fn_okG (N := ["_law_hand_here", "_law_some_here"]) (ps := ["_law_hand_here", "_law_some_here"]) (den := d__law_pick) (own := ownL []) F sc__law_pick (by decide) fun cdv A outer s H E hr gd => ?_
  have hu : (A.deeper (PyProof.Rows.envOfC "_law_pick" (defScope st__law_pick) s.heap.objs.size f cdv)).units + 65 < cLine := by have := hr.un; omega
  have h4 := Nat.lt_of_succ_lt hu
  have g0 : (A.deeper (PyProof.Rows.envOfC "_law_pick" (defScope st__law_pick) s.heap.objs.size f cdv)).guards = some [] := gd
  exact ss_one (ss_ret (se_ixA hu (sh_val (xv)) (sh_val (yc D__law_take hr g0 b3 .nil (sa_cons (sh_val (xv)) (sa_cons (sh_val (se_callB cr_lenU ok_len rfl C.m_len bt_len (sa_cons (sh_val (xv)) (sa_nil)))) (sa_nil))) (sk_nil) (fun vs zs l1 l2 => match vs, zs, l1, l2 with | [_, _], [], _, _ => rfl) (fun _ _ _ h => aCons_len (fun _ _ _ h => aCons_len (fun _ _ _ h => aNil_len h) h) h) (fun _ _ _ h => aNil_len h))) (by intro _ _; rfl)))
abbrev st__law_some : Stmt := top 17
theorem sc__law_some : FnScope ["_law_hand_here", "_law_some_here", "_law_many", "_law_left", "_law_k"] ["_law_hand_here", "_law_some_here", "_law_many"] (defScope st__law_some) := ⟨rfl, rfl, rfl, by decide +kernel, rfl, by decide +kernel, by decide +kernel⟩
def d__law_some : Den Fl := sSeq (sSet 3 (eFn gList (aCons (hVal (eVar 1)) (aNil)))) (sRet (eFn gTuple (aCons (hVal (eLc (iRange1 (aCons (hVal (eVar 2)) (aNil))) [4] (.nm 4) (.ret true) (eMut 3 gPopAt (aVals (aCons (hVal (eCallK fn__law_take [.p 0, .p 1] [] (aVals (aCons (hVal (eVar 0)) (aCons (hVal (eFn gLen (aCons (hSlot 3) (aNil)))) (aNil)))) (aVals (aNil)))) (aNil)))))) (aNil))))
def fn__law_some : Fn := runFn 5 d__law_some
set_option maxRecDepth 100000 in
theorem ok__law_some {f : Addr} {fd : FuncData} (C : Mod ⟨K, P, w⟩ mg) (F : FunD K "_law_some" "_law_some" (defArgs st__law_some) (defBody st__law_some) (defScope st__law_some) [] [] f fd)
    {f__law_take : Addr} {fd__law_take : FuncData} (D__law_take : DefG P w K mg base cls 1 "_law_take" f__law_take fd__law_take ["_law_hand_here", "_law_many"] fn__law_take)
    {mv3 : List Value} (b3 : KBn K fd__law_take ["_law_hand_here", "_law_many"] 2 [] (fun us ws => arr [.p 0, .p 1] us mv3 ws) (fun vs zs => arr [.p 0, .p 1] vs [] zs)) :
    FnG P w K mg base 2 f fd ["_law_hand_here", "_law_some_here", "_law_many"] (SpD ⟨K, P, w⟩ cls 3 fn__law_some) := by
  refine fn_okG (N := ["_law_hand_here", "_law_some_here", "_law_many", "_law_left", "_law_k"]) (ps := ["_law_hand_here", "_law_some_here", "_law_many"]) (den := d__law_some) (own := ownL [3]) F sc__law_some (by decide) fun cdv A outer s H E hr gd => ?_
  have hu : (A.deeper (PyProof.Rows.envOfC "_law_some" (defScope st__law_some) s.heap.objs.size f cdv)).units + 65 < cLine := by have := hr.un; omega
  have h4 := Nat.lt_of_succ_lt hu
  have g0 : (A.deeper (PyProof.Rows.envOfC "_law_some" (defScope st__law_some) s.heap.objs.size f cdv)).guards = some [] := gd
  exact ss_cons (ss_own (i := 3) rfl sc__law_some.nd rfl (by first | exact .inl rfl | exact .inr rfl) (sf_callTy call_list_of ok_list rfl C.m_list bt_list (sa_cons (sh_val (xv)) (sa_nil)))) (ss_one (ss_ret (se_callTy cr_tupleF ok_tuple rfl C.m_tuple bt_tuple (sa_cons (sh_val (se_of (sf_lc (ow := [("_law_k", 4)]) rfl sc__law_some.nd (si_range1 rfl C.m_range (sa_cons (sh_val (xv)) (sa_nil))) (blkOk_by (by kernel_rfl)) (fun _ _ _ _ _ => sg_name (i := 4) rfl sc__law_some.nd rfl (by first | exact .inl rfl | exact .inr rfl)) (fun _ _ _ _ _ => sbs_nil) (fun _ _ _ _ _ => se_popAt (i := 3) rfl (by first | exact .inl rfl | exact .inr (.inl rfl) | exact .inr (.inr rfl)) rfl (sa_cons (sh_val (yc D__law_take hr g0 b3 .nil (sa_cons (sh_val (xv)) (sa_cons (sh_val (se_callB cr_lenU ok_len rfl C.m_len bt_len (sa_cons (xs) (sa_nil)))) (sa_nil))) (sk_nil) (fun vs zs l1 l2 => match vs, zs, l1, l2 with | [_, _], [], _, _ => rfl) (fun _ _ _ h => aCons_len (fun _ _ _ h => aCons_len (fun _ _ _ h => aNil_len h) h) h) (fun _ _ _ h => aNil_len h))) (sa_nil))) (by decide) (by decide)))) (sa_nil)))))
abbrev st__law_cut : Stmt := top 23
theorem sc__law_cut : FnScope ["_law_hand_here", "_law_made", "_law_gone", "_law_stands", "_law_shape", "_law_rules", "_law_some_here", "_law_goal", "_law_fill", "_law_saying"] ["_law_hand_here", "_law_made"] (defScope st__law_cut) := ⟨rfl, rfl, rfl, by decide +kernel, rfl, by decide +kernel, by decide +kernel⟩
def d__law_cut : Den Fl := sSeq (sSet 2 (eCallK fn__law_take [.p 0, .p 1] [] (aVals (aCons (hVal (eVar 0)) (aCons (hVal (eFn gLen (aCons (hVal (eOp gIxA (hVal (eVar 1)) (hVal (eC (.int 1))))) (aNil)))) (aNil)))) (aVals (aNil)))) (sSeq (sSet 3 (eLst (aNil))) (sSeq (sFor (iSeq (eOp gIxA (hVal (eVar 1)) (hVal (eC (.int 1))))) (.tp [.nm 4, .nm 5]) (sSeq (sSet 6 (eLc (iSeq (eVar 5)) [7, 8, 9] (.tp [.nm 7, .nm 8, .nm 9]) (.ret true) (eIf (bOf (eOp gEq (hVal (eVar 7)) (hVal (eVar 2)))) (eTup (aCons (hVal (eC (.int 0))) (aCons (hVal (eTup (aNil))) (aCons (hVal (eVar 9)) (aNil))))) (eTup (aCons (hVal (eVar 7)) (aCons (hVal (eVar 8)) (aCons (hVal (eVar 9)) (aNil)))))))) (sDrop (eMut 3 gAppend (aVals (aCons (hVal (eTup (aCons (hVal (eVar 4)) (aCons (hVal (eFn gTuple (aCons (hVal (eVar 6)) (aNil)))) (aNil))))) (aNil))))))) (sFrz 3 (sRet (eTup (aCons (hVal (eOp gIxA (hVal (eVar 1)) (hVal (eC (.int 0))))) (aCons (hVal (eFn gTuple (aCons (hVal (eVar 3)) (aNil)))) (aNil))))))))
def fn__law_cut : Fn := runFn 10 d__law_cut
set_option maxRecDepth 100000 in
theorem ok__law_cut {f : Addr} {fd : FuncData} (C : Mod ⟨K, P, w⟩ mg) (F : FunD K "_law_cut" "_law_cut" (defArgs st__law_cut) (defBody st__law_cut) (defScope st__law_cut) [] [] f fd)
    {f__law_take : Addr} {fd__law_take : FuncData} (D__law_take : DefG P w K mg base cls 1 "_law_take" f__law_take fd__law_take ["_law_hand_here", "_law_many"] fn__law_take)
    {mv3 : List Value} (b3 : KBn K fd__law_take ["_law_hand_here", "_law_many"] 2 [] (fun us ws => arr [.p 0, .p 1] us mv3 ws) (fun vs zs => arr [.p 0, .p 1] vs [] zs)) :
    FnG P w K mg base 2 f fd ["_law_hand_here", "_law_made"] (SpD ⟨K, P, w⟩ cls 2 fn__law_cut) := by
  refine fn_okG (N := ["_law_hand_here", "_law_made", "_law_gone", "_law_stands", "_law_shape", "_law_rules", "_law_some_here", "_law_goal", "_law_fill", "_law_saying"]) (ps := ["_law_hand_here", "_law_made"]) (den := d__law_cut) (own := ownL [3]) F sc__law_cut (by decide) fun cdv A outer s H E hr gd => ?_
  have hu : (A.deeper (PyProof.Rows.envOfC "_law_cut" (defScope st__law_cut) s.heap.objs.size f cdv)).units + 65 < cLine := by have := hr.un; omega
  have h4 := Nat.lt_of_succ_lt hu
  have g0 : (A.deeper (PyProof.Rows.envOfC "_law_cut" (defScope st__law_cut) s.heap.objs.size f cdv)).guards = some [] := gd
  exact ss_cons (ss_set (i := 2) rfl sc__law_cut.nd rfl (by first | exact .inl rfl | exact .inr rfl) (yc D__law_take hr g0 b3 .nil (sa_cons (sh_val (xv)) (sa_cons (sh_val (se_callB cr_lenU ok_len rfl C.m_len bt_len (sa_cons (sh_val (se_ixA hu (sh_val (xv)) (sh_val (se_int)) (by intro _ _; rfl))) (sa_nil)))) (sa_nil))) (sk_nil) (fun vs zs l1 l2 => match vs, zs, l1, l2 with | [_, _], [], _, _ => rfl) (fun _ _ _ h => aCons_len (fun _ _ _ h => aCons_len (fun _ _ _ h => aNil_len h) h) h) (fun _ _ _ h => aNil_len h))) (ss_cons (ss_own (i := 3) rfl sc__law_cut.nd rfl (by first | exact .inl rfl | exact .inr rfl) (sf_lst (sa_nil))) (ss_cons (ss_for PassesOwn.never rfl (si_seq (se_ixA hu (sh_val (xv)) (sh_val (se_int)) (by intro _ _; rfl))) (sg_tup rfl (sgs_cons (sg_name (i := 4) rfl sc__law_cut.nd rfl (by first | exact .inl rfl | exact .inr rfl)) (sgs_cons (sg_name (i := 5) rfl sc__law_cut.nd rfl (by first | exact .inl rfl | exact .inr rfl)) (sgs_nil))) rfl) (ss_cons (ss_setLc (i := 6) (ow := [("_law_goal", 7), ("_law_fill", 8), ("_law_saying", 9)]) rfl rfl sc__law_cut.nd rfl rfl rfl (si_seq (xv)) (blkOk_by (by kernel_rfl)) (fun _ _ _ _ _ => sg_tup rfl (sgs_cons (sg_name (i := 7) rfl sc__law_cut.nd rfl (by first | exact .inl rfl | exact .inr rfl)) (sgs_cons (sg_name (i := 8) rfl sc__law_cut.nd rfl (by first | exact .inl rfl | exact .inr rfl)) (sgs_cons (sg_name (i := 9) rfl sc__law_cut.nd rfl (by first | exact .inl rfl | exact .inr rfl)) (sgs_nil)))) rfl) (fun _ _ _ _ _ => sbs_nil) (fun _ _ _ _ _ => se_if (sb_cmp (op_eqD h4) ok_eqD (sh_val (xv)) (sh_val (xv))) (se_tup (sa_cons (sh_val (se_int)) (sa_cons (sh_val (se_tup (sa_nil))) (sa_cons (sh_val (xv)) (sa_nil))))) (se_tup (sa_cons (sh_val (xv)) (sa_cons (sh_val (xv)) (sa_cons (sh_val (xv)) (sa_nil)))))) (by decide) (by decide)) (ss_one (ss_expr (se_append (i := 3) rfl (by first | exact .inl rfl | exact .inr (.inl rfl) | exact .inr (.inr rfl)) rfl (sa_cons (sh_val (se_tup (sa_cons (sh_val (xv)) (sa_cons (sh_val (se_callTy cr_tupleF ok_tuple rfl C.m_tuple bt_tuple (sa_cons (sh_val (xv)) (sa_nil)))) (sa_nil))))) (sa_nil))))))) (ss_frz 3 rfl (ss_one (ss_ret (se_tup (sa_cons (sh_val (se_ixA hu (sh_val (xv)) (sh_val (se_int)) (by intro _ _; rfl))) (sa_cons (sh_val (se_callTy cr_tupleF ok_tuple rfl C.m_tuple bt_tuple (sa_cons (sh_val (xv)) (sa_nil)))) (sa_nil)))))))))
abbrev st_rule : Stmt := top 8
theorem sc_rule : FnScope ["machine", "stand", "word", "case", "words", "stands", "frame", "rules"] ["machine", "stand", "word", "case"] (defScope st_rule) := ⟨rfl, rfl, rfl, by decide +kernel, rfl, by decide +kernel, by decide +kernel⟩
def d_rule : Den Fl := sSeq (sAsg (.tp [.nm 4, .nm 5]) (eVar 0)) (sSeq (sAsg (.tp [.nm 6, .nm 7]) (eOp gIxA (hVal (eVar 5)) (hVal (eVar 1)))) (sRet (eOp gIxA (hVal (eVar 7)) (hVal (eIndex (eCallK fn_lines_of [.p 0, .p 1] [] (aVals (aCons (hVal (eVar 4)) (aCons (hVal (eVar 6)) (aNil)))) (aVals (aNil))) (aCons (hVal (eTup (aCons (hVal (eVar 2)) (aCons (hVal (eVar 3)) (aNil))))) (aNil)))))))
def fn_rule : Fn := runFn 8 d_rule
set_option maxRecDepth 100000 in
theorem ok_rule {f : Addr} {fd : FuncData} (C : Mod ⟨K, P, w⟩ mg) (F : FunD K "rule" "rule" (defArgs st_rule) (defBody st_rule) (defScope st_rule) [] [] f fd)
    {f_lines_of : Addr} {fd_lines_of : FuncData} (D_lines_of : DefG P w K mg base cls 2 "lines_of" f_lines_of fd_lines_of ["words", "frame"] fn_lines_of)
    {mv2 : List Value} (b2 : KBn K fd_lines_of ["words", "frame"] 2 [] (fun us ws => arr [.p 0, .p 1] us mv2 ws) (fun vs zs => arr [.p 0, .p 1] vs [] zs)) :
    FnG P w K mg base 3 f fd ["machine", "stand", "word", "case"] (SpD ⟨K, P, w⟩ cls 4 fn_rule) := by
  refine fn_okG (N := ["machine", "stand", "word", "case", "words", "stands", "frame", "rules"]) (ps := ["machine", "stand", "word", "case"]) (den := d_rule) (own := ownL []) F sc_rule (by decide) fun cdv A outer s H E hr gd => ?_
  have hu : (A.deeper (PyProof.Rows.envOfC "rule" (defScope st_rule) s.heap.objs.size f cdv)).units + 65 < cLine := by have := hr.un; omega
  have h4 := Nat.lt_of_succ_lt hu
  have g0 : (A.deeper (PyProof.Rows.envOfC "rule" (defScope st_rule) s.heap.objs.size f cdv)).guards = some [] := gd
  exact ss_cons (ss_asg (xv) (sg_tup rfl (sgs_cons (sg_name (i := 4) rfl sc_rule.nd rfl (by first | exact .inl rfl | exact .inr rfl)) (sgs_cons (sg_name (i := 5) rfl sc_rule.nd rfl (by first | exact .inl rfl | exact .inr rfl)) (sgs_nil))) rfl)) (ss_cons (ss_asg (se_ixA hu (sh_val (xv)) (sh_val (xv)) (by intro _ _; rfl)) (sg_tup rfl (sgs_cons (sg_name (i := 6) rfl sc_rule.nd rfl (by first | exact .inl rfl | exact .inr rfl)) (sgs_cons (sg_name (i := 7) rfl sc_rule.nd rfl (by first | exact .inl rfl | exact .inr rfl)) (sgs_nil))) rfl)) (ss_one (ss_ret (se_ixA hu (sh_val (xv)) (sh_val (se_index hu (yc D_lines_of hr g0 b2 .nil (sa_cons (sh_val (xv)) (sa_cons (sh_val (xv)) (sa_nil))) (sk_nil) (fun vs zs l1 l2 => match vs, zs, l1, l2 with | [_, _], [], _, _ => rfl) (fun _ _ _ h => aCons_len (fun _ _ _ h => aCons_len (fun _ _ _ h => aNil_len h) h) h) (fun _ _ _ h => aNil_len h)) (sa_cons (sh_val (se_tup (sa_cons (sh_val (xv)) (sa_cons (sh_val (xv)) (sa_nil))))) (sa_nil)))) (by intro _ _; rfl)))))
abbrev st__law_rule : Stmt := top 18
theorem sc__law_rule : FnScope ["_law_hand_here", "_law_frames", "_law_shape", "_law_line", "_law_marks", "_law_there_here", "_law_goals", "_law_goal", "_law_other", "_law_houses", "_law_fill", "_law_house", "_law_seats", "_law_every", "_law_said", "_law_k"] ["_law_hand_here", "_law_frames", "_law_shape", "_law_line", "_law_marks"] (defScope st__law_rule) := ⟨rfl, rfl, rfl, by decide +kernel, rfl, by decide +kernel, by decide +kernel⟩
def d__law_rule : Den Fl := sSeq (sSet 5 (eCallK fn__law_there [.p 0, .p 1, .p 2] [] (aVals (aCons (hVal (eVar 2)) (aCons (hVal (eOp gIxA (hVal (eVar 3)) (hVal (eC (.int 0))))) (aCons (hVal (eOp gIxA (hVal (eVar 3)) (hVal (eC (.int 1))))) (aNil))))) (aVals (aNil)))) (sSeq (sSet 6 (eLc (iEnum (aCons (hVal (eVar 1)) (aNil))) [7, 8] (.tp [.nm 7, .nm 8]) (bOf (eOp gNe (hVal (eCallK fn__law_fills [.p 0, .p 1] [] (aVals (aCons (hVal (eVar 8)) (aCons (hVal (eVar 5)) (aNil)))) (aVals (aNil)))) (hVal (eLst (aNil))))) (eVar 7))) (sSeq (sSet 7 (eCallK fn__law_pick [.p 0, .p 1] [] (aVals (aCons (hVal (eVar 0)) (aCons (hVal (eOp gAdd (hVal (eOp gAdd (hVal (eVar 6)) (hVal (eCut (hVal (eVar 6)) (pInt (eUn gNeg (hVal (eC (.int 1))))) (pNo))))) (hVal (eCut (hVal (eVar 6)) (pInt (eC (.int 1))) (pNo))))) (aNil)))) (aVals (aNil)))) (sSeq (sSet 9 (eCallK fn__law_pick [.p 0, .p 1] [] (aVals (aCons (hVal (eVar 0)) (aCons (hVal (eCallK fn__law_fills [.p 0, .p 1] [] (aVals (aCons (hVal (eOp gIxA (hVal (eVar 1)) (hVal (eVar 7)))) (aCons (hVal (eVar 5)) (aNil)))) (aVals (aNil)))) (aNil)))) (aVals (aNil)))) (sSeq (sSet 10 (eLc (iZip2 (aCons (hVal (eVar 9)) (aCons (hVal (eOp gIxA (hVal (eVar 1)) (hVal (eVar 7)))) (aNil)))) [11, 12] (.tp [.nm 11, .nm 12]) (.ret true) (eTup (aCons (hVal (eVar 11)) (aCons (hVal (eCallK fn__law_some [.p 0, .p 1, .p 2] [] (aVals (aCons (hVal (eVar 0)) (aCons (hVal (eOp gIxA (hVal (eVar 5)) (hVal (eVar 11)))) (aCons (hVal (eVar 12)) (aNil))))) (aVals (aNil)))) (aNil)))))) (sSeq (sSet 13 (eLst (aNil))) (sSeq (sFor (iSeq (eFn gSorted (aCons (hVal (eVar 5)) (aNil)))) (.nm 11) (sDrop (eMut 13 gExtend (aLooks (aCons (hVal (eOp gAdd (hVal (eLst (aCons (hVal (eVar 11)) (aNil)))) (hVal (eOp gIxA (hVal (eVar 5)) (hVal (eVar 11)))))) (aNil)))))) (sFrz 13 (sSeq (sSet 14 (eLc (iRange1 (aCons (hVal (eOp gMul (hVal (eCallK fn__law_take [.p 0, .p 1] [] (aVals (aCons (hVal (eVar 0)) (aCons (hVal (eC (.int 3))) (aNil)))) (aVals (aNil)))) (hVal (eFn gInt (aCons (hVal (eOp gNe (hVal (eVar 13)) (hVal (eLst (aNil))))) (aNil)))))) (aNil))) [15] (.nm 15) (.ret true) (eCallK fn__law_pick [.p 0, .p 1] [] (aVals (aCons (hVal (eVar 0)) (aCons (hVal (eVar 13)) (aNil)))) (aVals (aNil))))) (sRet (eTup (aCons (hVal (eVar 7)) (aCons (hVal (eFn gTuple (aCons (hVal (eVar 10)) (aNil)))) (aCons (hVal (eOp gAdd (hVal (eTup (aCons (hVal (eCallK fn__law_pick [.p 0, .p 1] [] (aVals (aCons (hVal (eVar 0)) (aCons (hVal (eVar 4)) (aNil)))) (aVals (aNil)))) (aNil)))) (hVal (eFn gTuple (aCons (hVal (eVar 14)) (aNil)))))) (aNil))))))))))))))
def fn__law_rule : Fn := runFn 16 d__law_rule
set_option maxRecDepth 100000 in
theorem ok__law_rule {f : Addr} {fd : FuncData} (C : Mod ⟨K, P, w⟩ mg) (F : FunD K "_law_rule" "_law_rule" (defArgs st__law_rule) (defBody st__law_rule) (defScope st__law_rule) [] [] f fd)
    {f__law_there : Addr} {fd__law_there : FuncData} (D__law_there : DefG P w K mg base cls 1 "_law_there" f__law_there fd__law_there ["_law_shape", "_law_term", "_law_spot"] fn__law_there)
    {f__law_fills : Addr} {fd__law_fills : FuncData} (D__law_fills : DefG P w K mg base cls 1 "_law_fills" f__law_fills fd__law_fills ["_law_shape", "_law_there_here"] fn__law_fills)
    {f__law_pick : Addr} {fd__law_pick : FuncData} (D__law_pick : DefG P w K mg base cls 2 "_law_pick" f__law_pick fd__law_pick ["_law_hand_here", "_law_some_here"] fn__law_pick)
    {f__law_some : Addr} {fd__law_some : FuncData} (D__law_some : DefG P w K mg base cls 2 "_law_some" f__law_some fd__law_some ["_law_hand_here", "_law_some_here", "_law_many"] fn__law_some)
    {f__law_take : Addr} {fd__law_take : FuncData} (D__law_take : DefG P w K mg base cls 1 "_law_take" f__law_take fd__law_take ["_law_hand_here", "_law_many"] fn__law_take)
    {mv3 : List Value} (b3 : KBn K fd__law_take ["_law_hand_here", "_law_many"] 2 [] (fun us ws => arr [.p 0, .p 1] us mv3 ws) (fun vs zs => arr [.p 0, .p 1] vs [] zs))
    {mv4 : List Value} (b4 : KBn K fd__law_there ["_law_shape", "_law_term", "_law_spot"] 3 [] (fun us ws => arr [.p 0, .p 1, .p 2] us mv4 ws) (fun vs zs => arr [.p 0, .p 1, .p 2] vs [] zs))
    {mv5 : List Value} (b5 : KBn K fd__law_fills ["_law_shape", "_law_there_here"] 2 [] (fun us ws => arr [.p 0, .p 1] us mv5 ws) (fun vs zs => arr [.p 0, .p 1] vs [] zs))
    {mv6 : List Value} (b6 : KBn K fd__law_pick ["_law_hand_here", "_law_some_here"] 2 [] (fun us ws => arr [.p 0, .p 1] us mv6 ws) (fun vs zs => arr [.p 0, .p 1] vs [] zs))
    {mv7 : List Value} (b7 : KBn K fd__law_some ["_law_hand_here", "_law_some_here", "_law_many"] 3 [] (fun us ws => arr [.p 0, .p 1, .p 2] us mv7 ws) (fun vs zs => arr [.p 0, .p 1, .p 2] vs [] zs)) :
    FnG P w K mg base 3 f fd ["_law_hand_here", "_law_frames", "_law_shape", "_law_line", "_law_marks"] (SpD ⟨K, P, w⟩ cls 5 fn__law_rule) := by
  refine fn_okG (N := ["_law_hand_here", "_law_frames", "_law_shape", "_law_line", "_law_marks", "_law_there_here", "_law_goals", "_law_goal", "_law_other", "_law_houses", "_law_fill", "_law_house", "_law_seats", "_law_every", "_law_said", "_law_k"]) (ps := ["_law_hand_here", "_law_frames", "_law_shape", "_law_line", "_law_marks"]) (den := d__law_rule) (own := ownL [13]) F sc__law_rule (by decide) fun cdv A outer s H E hr gd => ?_
  have hu : (A.deeper (PyProof.Rows.envOfC "_law_rule" (defScope st__law_rule) s.heap.objs.size f cdv)).units + 65 < cLine := by have := hr.un; omega
  have h4 := Nat.lt_of_succ_lt hu
  have g0 : (A.deeper (PyProof.Rows.envOfC "_law_rule" (defScope st__law_rule) s.heap.objs.size f cdv)).guards = some [] := gd
  exact ss_cons (ss_set (i := 5) rfl sc__law_rule.nd rfl (by first | exact .inl rfl | exact .inr rfl) (yc D__law_there hr g0 b4 .nil (sa_cons (sh_val (xv)) (sa_cons (sh_val (se_ixA hu (sh_val (xv)) (sh_val (se_int)) (by intro _ _; rfl))) (sa_cons (sh_val (se_ixA hu (sh_val (xv)) (sh_val (se_int)) (by intro _ _; rfl))) (sa_nil)))) (sk_nil) (fun vs zs l1 l2 => match vs, zs, l1, l2 with | [_, _, _], [], _, _ => rfl) (fun _ _ _ h => aCons_len (fun _ _ _ h => aCons_len (fun _ _ _ h => aCons_len (fun _ _ _ h => aNil_len h) h) h) h) (fun _ _ _ h => aNil_len h))) (ss_cons (ss_setLc (i := 6) (ow := [("_law_goal", 7), ("_law_other", 8)]) rfl rfl sc__law_rule.nd rfl rfl rfl (si_enum rfl C.m_enumerate (sa_cons (sh_val (xv)) (sa_nil))) (blkOk_by (by kernel_rfl)) (fun _ _ _ _ _ => sg_tup rfl (sgs_cons (sg_name (i := 7) rfl sc__law_rule.nd rfl (by first | exact .inl rfl | exact .inr rfl)) (sgs_cons (sg_name (i := 8) rfl sc__law_rule.nd rfl (by first | exact .inl rfl | exact .inr rfl)) (sgs_nil))) rfl) (fun _ _ _ _ _ => sbs_one (sb_cmp (op_neD h4) ok_neD (sh_val (yc D__law_fills hr g0 b5 .nil (sa_cons (sh_val (xv)) (sa_cons (sh_val (xv)) (sa_nil))) (sk_nil) (fun vs zs l1 l2 => match vs, zs, l1, l2 with | [_, _], [], _, _ => rfl) (fun _ _ _ h => aCons_len (fun _ _ _ h => aCons_len (fun _ _ _ h => aNil_len h) h) h) (fun _ _ _ h => aNil_len h))) (sh_val (se_of (sf_lst (sa_nil)))))) (fun _ _ _ _ _ => xv) (by decide) (by decide)) (ss_cons (ss_set (i := 7) rfl sc__law_rule.nd rfl (by first | exact .inl rfl | exact .inr rfl) (yc D__law_pick hr g0 b6 .nil (sa_cons (sh_val (xv)) (sa_cons (sh_val (se_op2 op_addU ok_add (sh_val (se_op2 op_addU ok_add (sh_val (xv)) (sh_val (se_cut (sh_val (xv)) (sp_int (se_un un_neg ok_neg (sh_val (se_int)))) (sp_no))))) (sh_val (se_cut (sh_val (xv)) (sp_int (se_int)) (sp_no))))) (sa_nil))) (sk_nil) (fun vs zs l1 l2 => match vs, zs, l1, l2 with | [_, _], [], _, _ => rfl) (fun _ _ _ h => aCons_len (fun _ _ _ h => aCons_len (fun _ _ _ h => aNil_len h) h) h) (fun _ _ _ h => aNil_len h))) (ss_cons (ss_set (i := 9) rfl sc__law_rule.nd rfl (by first | exact .inl rfl | exact .inr rfl) (yc D__law_pick hr g0 b6 .nil (sa_cons (sh_val (xv)) (sa_cons (sh_val (yc D__law_fills hr g0 b5 .nil (sa_cons (sh_val (se_ixA hu (sh_val (xv)) (sh_val (xv)) (by intro _ _; rfl))) (sa_cons (sh_val (xv)) (sa_nil))) (sk_nil) (fun vs zs l1 l2 => match vs, zs, l1, l2 with | [_, _], [], _, _ => rfl) (fun _ _ _ h => aCons_len (fun _ _ _ h => aCons_len (fun _ _ _ h => aNil_len h) h) h) (fun _ _ _ h => aNil_len h))) (sa_nil))) (sk_nil) (fun vs zs l1 l2 => match vs, zs, l1, l2 with | [_, _], [], _, _ => rfl) (fun _ _ _ h => aCons_len (fun _ _ _ h => aCons_len (fun _ _ _ h => aNil_len h) h) h) (fun _ _ _ h => aNil_len h))) (ss_cons (ss_setLc (i := 10) (ow := [("_law_house", 11), ("_law_seats", 12)]) rfl rfl sc__law_rule.nd rfl rfl rfl (si_zip rfl C.m_zip (sa_cons (sh_val (xv)) (sa_cons (sh_val (se_ixA hu (sh_val (xv)) (sh_val (xv)) (by intro _ _; rfl))) (sa_nil)))) (blkOk_by (by kernel_rfl)) (fun _ _ _ _ _ => sg_tup rfl (sgs_cons (sg_name (i := 11) rfl sc__law_rule.nd rfl (by first | exact .inl rfl | exact .inr rfl)) (sgs_cons (sg_name (i := 12) rfl sc__law_rule.nd rfl (by first | exact .inl rfl | exact .inr rfl)) (sgs_nil))) rfl) (fun _ _ _ _ _ => sbs_nil) (fun _ _ _ _ _ => se_tup (sa_cons (sh_val (xv)) (sa_cons (sh_val (yc D__law_some hr g0 b7 .nil (sa_cons (sh_val (xv)) (sa_cons (sh_val (se_ixA hu (sh_val (xv)) (sh_val (xv)) (by intro _ _; rfl))) (sa_cons (sh_val (xv)) (sa_nil)))) (sk_nil) (fun vs zs l1 l2 => match vs, zs, l1, l2 with | [_, _, _], [], _, _ => rfl) (fun _ _ _ h => aCons_len (fun _ _ _ h => aCons_len (fun _ _ _ h => aCons_len (fun _ _ _ h => aNil_len h) h) h) h) (fun _ _ _ h => aNil_len h))) (sa_nil)))) (by decide) (by decide)) (ss_cons (ss_own (i := 13) rfl sc__law_rule.nd rfl (by first | exact .inl rfl | exact .inr rfl) (sf_lst (sa_nil))) (ss_cons (ss_for PassesOwn.never rfl (si_seq (se_of (sf_callB (cr_sortD rfl hu) ok_sorted rfl C.m_sorted bt_sorted (sa_cons (sh_val (xv)) (sa_nil))))) (sg_name (i := 11) rfl sc__law_rule.nd rfl (by first | exact .inl rfl | exact .inr rfl)) (ss_one (ss_expr (se_extend (i := 13) rfl (by first | exact .inl rfl | exact .inr (.inl rfl) | exact .inr (.inr rfl)) rfl (sa_cons (sh_val (se_op2 op_addU ok_add (sh_val (se_of (sf_lst (sa_cons (sh_val (xv)) (sa_nil))))) (sh_val (se_ixA hu (sh_val (xv)) (sh_val (xv)) (by intro _ _; rfl))))) (sa_nil)))))) (ss_frz 13 rfl (ss_cons (ss_setLc (i := 14) (ow := [("_law_k", 15)]) rfl rfl sc__law_rule.nd rfl rfl rfl (si_range1 rfl C.m_range (sa_cons (sh_val (se_op2 op_mulU ok_mul (sh_val (yc D__law_take hr g0 b3 .nil (sa_cons (sh_val (xv)) (sa_cons (sh_val (se_int)) (sa_nil))) (sk_nil) (fun vs zs l1 l2 => match vs, zs, l1, l2 with | [_, _], [], _, _ => rfl) (fun _ _ _ h => aCons_len (fun _ _ _ h => aCons_len (fun _ _ _ h => aNil_len h) h) h) (fun _ _ _ h => aNil_len h))) (sh_val (se_callTy call_int1 ok_int rfl C.m_int bt_int (sa_cons (sh_val (se_cmp (op_neD h4) ok_neD (sh_val (xv)) (sh_val (se_of (sf_lst (sa_nil)))))) (sa_nil)))))) (sa_nil))) (blkOk_by (by kernel_rfl)) (fun _ _ _ _ _ => sg_name (i := 15) rfl sc__law_rule.nd rfl (by first | exact .inl rfl | exact .inr rfl)) (fun _ _ _ _ _ => sbs_nil) (fun _ _ _ _ _ => yc D__law_pick hr g0 b6 .nil (sa_cons (sh_val (xv)) (sa_cons (sh_val (xv)) (sa_nil))) (sk_nil) (fun vs zs l1 l2 => match vs, zs, l1, l2 with | [_, _], [], _, _ => rfl) (fun _ _ _ h => aCons_len (fun _ _ _ h => aCons_len (fun _ _ _ h => aNil_len h) h) h) (fun _ _ _ h => aNil_len h)) (by decide) (by decide)) (ss_one (ss_ret (se_tup (sa_cons (sh_val (xv)) (sa_cons (sh_val (se_callTy cr_tupleF ok_tuple rfl C.m_tuple bt_tuple (sa_cons (sh_val (xv)) (sa_nil)))) (sa_cons (sh_val (se_op2 op_addU ok_add (sh_val (se_tup (sa_cons (sh_val (yc D__law_pick hr g0 b6 .nil (sa_cons (sh_val (xv)) (sa_cons (sh_val (xv)) (sa_nil))) (sk_nil) (fun vs zs l1 l2 => match vs, zs, l1, l2 with | [_, _], [], _, _ => rfl) (fun _ _ _ h => aCons_len (fun _ _ _ h => aCons_len (fun _ _ _ h => aNil_len h) h) h) (fun _ _ _ h => aNil_len h))) (sa_nil)))) (sh_val (se_callTy cr_tupleF ok_tuple rfl C.m_tuple bt_tuple (sa_cons (sh_val (xv)) (sa_nil)))))) (sa_nil)))))))))))))))
abbrev st__law_words : Stmt := top 19
theorem sc__law_words : FnScope ["_law_hand_here", "_law_many", "_law_letters", "_law_stem", "_law_k", "_law_first", "_law_step"] ["_law_hand_here", "_law_many"] (defScope st__law_words) := ⟨rfl, rfl, rfl, by decide +kernel, rfl, by decide +kernel, by decide +kernel⟩
def d__law_words : Den Fl := sSeq (sSet 2 (eC (.str "abcdefghijklmnopqrstuvwxyz"))) (sSeq (sSet 3 (eJoin (eC (.str "")) (eLc (iRange1 (aCons (hVal (eCallK fn__law_pick [.p 0, .p 1] [] (aVals (aCons (hVal (eVar 0)) (aCons (hVal (eLst (aCons (hVal (eC (.int 0))) (aCons (hVal (eC (.int 0))) (aCons (hVal (eC (.int 1))) (aCons (hVal (eC (.int 2))) (aCons (hVal (eC (.int 7))) (aNil)))))))) (aNil)))) (aVals (aNil)))) (aNil))) [4] (.nm 4) (.ret true) (eCallK fn__law_pick [.p 0, .p 1] [] (aVals (aCons (hVal (eVar 0)) (aCons (hVal (eVar 2)) (aNil)))) (aVals (aNil)))))) (sSeq (sMulti [5, 6] (mCons (eCallK fn__law_take [.p 0, .p 1] [] (aVals (aCons (hVal (eVar 0)) (aCons (hVal (eC (.int 26))) (aNil)))) (aVals (aNil))) (mCons (eCallK fn__law_pick [.p 0, .p 1] [] (aVals (aCons (hVal (eVar 0)) (aCons (hVal (eLst (aCons (hVal (eC (.int 1))) (aCons (hVal (eC (.int 3))) (aCons (hVal (eC (.int 5))) (aCons (hVal (eC (.int 25))) (aNil))))))) (aNil)))) (aVals (aNil))) (mNil)))) (sRet (eFn gTuple (aCons (hVal (eFn gSorted (aCons (hVal (eLc (iRange1 (aCons (hVal (eVar 1)) (aNil))) [4] (.nm 4) (.ret true) (eOp gAdd (hVal (eVar 3)) (hVal (eOp gIxA (hVal (eVar 2)) (hVal (eOp gMod (hVal (eOp gAdd (hVal (eVar 5)) (hVal (eOp gMul (hVal (eVar 6)) (hVal (eVar 4)))))) (hVal (eC (.int 26)))))))))) (aNil)))) (aNil))))))
def fn__law_words : Fn := runFn 7 d__law_words
set_option maxRecDepth 100000 in
theorem ok__law_words {f : Addr} {fd : FuncData} (C : Mod ⟨K, P, w⟩ mg) (F : FunD K "_law_words" "_law_words" (defArgs st__law_words) (defBody st__law_words) (defScope st__law_words) [] [] f fd)
    {f__law_pick : Addr} {fd__law_pick : FuncData} (D__law_pick : DefG P w K mg base cls 2 "_law_pick" f__law_pick fd__law_pick ["_law_hand_here", "_law_some_here"] fn__law_pick)
    {f__law_take : Addr} {fd__law_take : FuncData} (D__law_take : DefG P w K mg base cls 1 "_law_take" f__law_take fd__law_take ["_law_hand_here", "_law_many"] fn__law_take)
    {mv3 : List Value} (b3 : KBn K fd__law_take ["_law_hand_here", "_law_many"] 2 [] (fun us ws => arr [.p 0, .p 1] us mv3 ws) (fun vs zs => arr [.p 0, .p 1] vs [] zs))
    {mv6 : List Value} (b6 : KBn K fd__law_pick ["_law_hand_here", "_law_some_here"] 2 [] (fun us ws => arr [.p 0, .p 1] us mv6 ws) (fun vs zs => arr [.p 0, .p 1] vs [] zs)) :
    FnG P w K mg base 3 f fd ["_law_hand_here", "_law_many"] (SpD ⟨K, P, w⟩ cls 2 fn__law_words) := by
  refine fn_okG (N := ["_law_hand_here", "_law_many", "_law_letters", "_law_stem", "_law_k", "_law_first", "_law_step"]) (ps := ["_law_hand_here", "_law_many"]) (den := d__law_words) (own := ownL []) F sc__law_words (by decide) fun cdv A outer s H E hr gd => ?_
  have hu : (A.deeper (PyProof.Rows.envOfC "_law_words" (defScope st__law_words) s.heap.objs.size f cdv)).units + 65 < cLine := by have := hr.un; omega
  have h4 := Nat.lt_of_succ_lt hu
  have g0 : (A.deeper (PyProof.Rows.envOfC "_law_words" (defScope st__law_words) s.heap.objs.size f cdv)).guards = some [] := gd
  exact ss_cons (ss_set (i := 2) rfl sc__law_words.nd rfl (by first | exact .inl rfl | exact .inr rfl) (se_str)) (ss_cons (ss_set (i := 3) rfl sc__law_words.nd rfl (by first | exact .inl rfl | exact .inr rfl) (se_join (se_str) (se_of (sf_lc (ow := [("_law_k", 4)]) rfl sc__law_words.nd (si_range1 rfl C.m_range (sa_cons (sh_val (yc D__law_pick hr g0 b6 .nil (sa_cons (sh_val (xv)) (sa_cons (sh_val (se_of (sf_lst (sa_cons (sh_val (se_int)) (sa_cons (sh_val (se_int)) (sa_cons (sh_val (se_int)) (sa_cons (sh_val (se_int)) (sa_cons (sh_val (se_int)) (sa_nil))))))))) (sa_nil))) (sk_nil) (fun vs zs l1 l2 => match vs, zs, l1, l2 with | [_, _], [], _, _ => rfl) (fun _ _ _ h => aCons_len (fun _ _ _ h => aCons_len (fun _ _ _ h => aNil_len h) h) h) (fun _ _ _ h => aNil_len h))) (sa_nil))) (blkOk_by (by kernel_rfl)) (fun _ _ _ _ _ => sg_name (i := 4) rfl sc__law_words.nd rfl (by first | exact .inl rfl | exact .inr rfl)) (fun _ _ _ _ _ => sbs_nil) (fun _ _ _ _ _ => yc D__law_pick hr g0 b6 .nil (sa_cons (sh_val (xv)) (sa_cons (sh_val (xv)) (sa_nil))) (sk_nil) (fun vs zs l1 l2 => match vs, zs, l1, l2 with | [_, _], [], _, _ => rfl) (fun _ _ _ h => aCons_len (fun _ _ _ h => aCons_len (fun _ _ _ h => aNil_len h) h) h) (fun _ _ _ h => aNil_len h)) (by decide) (by decide))))) (ss_cons (ss_asgM (is := [5, 6]) rfl rfl (pgs_cons (pg_name (i := 5) sc__law_words.nd rfl (by first | exact .inl rfl | exact .inr rfl)) (pgs_cons (pg_name (i := 6) sc__law_words.nd rfl (by first | exact .inl rfl | exact .inr rfl)) (pgs_nil))) (sm_val (yc D__law_take hr g0 b3 .nil (sa_cons (sh_val (xv)) (sa_cons (sh_val (se_int)) (sa_nil))) (sk_nil) (fun vs zs l1 l2 => match vs, zs, l1, l2 with | [_, _], [], _, _ => rfl) (fun _ _ _ h => aCons_len (fun _ _ _ h => aCons_len (fun _ _ _ h => aNil_len h) h) h) (fun _ _ _ h => aNil_len h)) (sm_val (yc D__law_pick hr g0 b6 .nil (sa_cons (sh_val (xv)) (sa_cons (sh_val (se_of (sf_lst (sa_cons (sh_val (se_int)) (sa_cons (sh_val (se_int)) (sa_cons (sh_val (se_int)) (sa_cons (sh_val (se_int)) (sa_nil)))))))) (sa_nil))) (sk_nil) (fun vs zs l1 l2 => match vs, zs, l1, l2 with | [_, _], [], _, _ => rfl) (fun _ _ _ h => aCons_len (fun _ _ _ h => aCons_len (fun _ _ _ h => aNil_len h) h) h) (fun _ _ _ h => aNil_len h)) (sm_nil))) rfl (by decide)) (ss_one (ss_ret (se_callTy cr_tupleF ok_tuple rfl C.m_tuple bt_tuple (sa_cons (sh_val (se_of (sf_callB (cr_sortD rfl hu) ok_sorted rfl C.m_sorted bt_sorted (sa_cons (sh_val (se_of (sf_lc (ow := [("_law_k", 4)]) rfl sc__law_words.nd (si_range1 rfl C.m_range (sa_cons (sh_val (xv)) (sa_nil))) (blkOk_by (by kernel_rfl)) (fun _ _ _ _ _ => sg_name (i := 4) rfl sc__law_words.nd rfl (by first | exact .inl rfl | exact .inr rfl)) (fun _ _ _ _ _ => sbs_nil) (fun _ _ _ _ _ => se_op2 op_addU ok_add (sh_val (xv)) (sh_val (se_ixA hu (sh_val (xv)) (sh_val (se_op2 op_modN ok_mod (sh_val (se_op2 op_addU ok_add (sh_val (xv)) (sh_val (se_op2 op_mulU ok_mul (sh_val (xv)) (sh_val (xv)))))) (sh_val (se_int)))) (by intro _ _; rfl)))) (by decide) (by decide)))) (sa_nil))))) (sa_nil)))))))
abbrev st__law_frame : Stmt := top 20
theorem sc__law_frame : FnScope ["_law_hand_here"] ["_law_hand_here"] (defScope st__law_frame) := ⟨rfl, rfl, rfl, by decide +kernel, rfl, by decide +kernel, by decide +kernel⟩
def d__law_frame : Den Fl := sRet (eCallK fn__law_pick [.p 0, .p 1] [] (aVals (aCons (hVal (eVar 0)) (aCons (hVal (eLst (aCons (hVal (eTup (aNil))) (aCons (hVal (eTup (aCons (hVal (eC (.int 0))) (aNil)))) (aCons (hVal (eTup (aCons (hVal (eC (.int 1))) (aNil)))) (aCons (hVal (eTup (aCons (hVal (eC (.int 1))) (aNil)))) (aCons (hVal (eTup (aCons (hVal (eC (.int 2))) (aNil)))) (aCons (hVal (eTup (aCons (hVal (eC (.int 0))) (aCons (hVal (eC (.int 0))) (aNil))))) (aCons (hVal (eTup (aCons (hVal (eC (.int 1))) (aCons (hVal (eC (.int 0))) (aNil))))) (aCons (hVal (eTup (aCons (hVal (eC (.int 0))) (aCons (hVal (eC (.int 1))) (aNil))))) (aCons (hVal (eTup (aCons (hVal (eC (.int 1))) (aCons (hVal (eC (.int 1))) (aNil))))) (aCons (hVal (eTup (aCons (hVal (eC (.int 2))) (aCons (hVal (eC (.int 0))) (aNil))))) (aCons (hVal (eTup (aCons (hVal (eC (.int 1))) (aCons (hVal (eC (.int 2))) (aNil))))) (aCons (hVal (eTup (aCons (hVal (eC (.int 2))) (aCons (hVal (eC (.int 2))) (aNil))))) (aNil))))))))))))))) (aNil)))) (aVals (aNil)))
def fn__law_frame : Fn := runFn 1 d__law_frame
set_option maxRecDepth 100000 in
theorem ok__law_frame {f : Addr} {fd : FuncData} (C : Mod ⟨K, P, w⟩ mg) (F : FunD K "_law_frame" "_law_frame" (defArgs st__law_frame) (defBody st__law_frame) (defScope st__law_frame) [] [] f fd)
    {f__law_pick : Addr} {fd__law_pick : FuncData} (D__law_pick : DefG P w K mg base cls 2 "_law_pick" f__law_pick fd__law_pick ["_law_hand_here", "_law_some_here"] fn__law_pick)
    {mv6 : List Value} (b6 : KBn K fd__law_pick ["_law_hand_here", "_law_some_here"] 2 [] (fun us ws => arr [.p 0, .p 1] us mv6 ws) (fun vs zs => arr [.p 0, .p 1] vs [] zs)) :
    FnG P w K mg base 3 f fd ["_law_hand_here"] (SpD ⟨K, P, w⟩ cls 1 fn__law_frame) := by
  refine fn_okG (N := ["_law_hand_here"]) (ps := ["_law_hand_here"]) (den := d__law_frame) (own := ownL []) F sc__law_frame (by decide) fun cdv A outer s H E hr gd => ?_
  have hu : (A.deeper (PyProof.Rows.envOfC "_law_frame" (defScope st__law_frame) s.heap.objs.size f cdv)).units + 65 < cLine := by have := hr.un; omega
  have h4 := Nat.lt_of_succ_lt hu
  have g0 : (A.deeper (PyProof.Rows.envOfC "_law_frame" (defScope st__law_frame) s.heap.objs.size f cdv)).guards = some [] := gd
  exact ss_one (ss_ret (yc D__law_pick hr g0 b6 .nil (sa_cons (sh_val (xv)) (sa_cons (sh_val (se_of (sf_lst (sa_cons (sh_val (se_tup (sa_nil))) (sa_cons (sh_val (se_tup (sa_cons (sh_val (se_int)) (sa_nil)))) (sa_cons (sh_val (se_tup (sa_cons (sh_val (se_int)) (sa_nil)))) (sa_cons (sh_val (se_tup (sa_cons (sh_val (se_int)) (sa_nil)))) (sa_cons (sh_val (se_tup (sa_cons (sh_val (se_int)) (sa_nil)))) (sa_cons (sh_val (se_tup (sa_cons (sh_val (se_int)) (sa_cons (sh_val (se_int)) (sa_nil))))) (sa_cons (sh_val (se_tup (sa_cons (sh_val (se_int)) (sa_cons (sh_val (se_int)) (sa_nil))))) (sa_cons (sh_val (se_tup (sa_cons (sh_val (se_int)) (sa_cons (sh_val (se_int)) (sa_nil))))) (sa_cons (sh_val (se_tup (sa_cons (sh_val (se_int)) (sa_cons (sh_val (se_int)) (sa_nil))))) (sa_cons (sh_val (se_tup (sa_cons (sh_val (se_int)) (sa_cons (sh_val (se_int)) (sa_nil))))) (sa_cons (sh_val (se_tup (sa_cons (sh_val (se_int)) (sa_cons (sh_val (se_int)) (sa_nil))))) (sa_cons (sh_val (se_tup (sa_cons (sh_val (se_int)) (sa_cons (sh_val (se_int)) (sa_nil))))) (sa_nil)))))))))))))))) (sa_nil))) (sk_nil) (fun vs zs l1 l2 => match vs, zs, l1, l2 with | [_, _], [], _, _ => rfl) (fun _ _ _ h => aCons_len (fun _ _ _ h => aCons_len (fun _ _ _ h => aNil_len h) h) h) (fun _ _ _ h => aNil_len h)))
abbrev st__law_machine : Stmt := top 21
theorem sc__law_machine : FnScope ["_law_hand_here", "_law_most_words", "_law_most_stands", "_law_terms", "_law_marks", "_law_frames", "_law_k", "_law_stands", "_law_shape", "_law_rules", "_law_line"] ["_law_hand_here", "_law_most_words", "_law_most_stands"] (defScope st__law_machine) := ⟨rfl, rfl, rfl, by decide +kernel, rfl, by decide +kernel, by decide +kernel⟩
def d__law_machine : Den Fl := sSeq (sSet 3 (eCallK fn__law_words [.p 0, .p 1] [] (aVals (aCons (hVal (eVar 0)) (aCons (hVal (eOp gAdd (hVal (eC (.int 1))) (hVal (eCallK fn__law_take [.p 0, .p 1] [] (aVals (aCons (hVal (eVar 0)) (aCons (hVal (eVar 1)) (aNil)))) (aVals (aNil)))))) (aNil)))) (aVals (aNil)))) (sSeq (sSet 4 (eCut (hVal (eTup (aCons (hVal (eC (.str "yes"))) (aCons (hVal (eC (.str "no"))) (aCons (hVal (eOp gIxA (hVal (eVar 3)) (hVal (eC (.int 0))))) (aNil)))))) (pNo) (pInt (eOp gAdd (hVal (eC (.int 1))) (hVal (eCallK fn__law_take [.p 0, .p 1] [] (aVals (aCons (hVal (eVar 0)) (aCons (hVal (eC (.int 3))) (aNil)))) (aVals (aNil)))))))) (sSeq (sSet 5 (eOp gAdd (hVal (eLst (aCons (hVal (eTup (aNil))) (aNil)))) (hVal (eLc (iRange1 (aCons (hVal (eCallK fn__law_take [.p 0, .p 1] [] (aVals (aCons (hVal (eVar 0)) (aCons (hVal (eVar 2)) (aNil)))) (aVals (aNil)))) (aNil))) [6] (.nm 6) (.ret true) (eCallK fn__law_frame [.p 0] [] (aVals (aCons (hVal (eVar 0)) (aNil))) (aVals (aNil))))))) (sSeq (sSet 7 (eLst (aNil))) (sSeq (sFor (iSeq (eVar 5)) (.nm 8) (sSeq (sSet 9 (eLc (iSeq (eCallK fn__law_lines [.p 0, .p 1] [] (aVals (aCons (hVal (eVar 3)) (aCons (hVal (eVar 8)) (aNil)))) (aVals (aNil)))) [10] (.nm 10) (.ret true) (eCallK fn__law_rule [.p 0, .p 1, .p 2, .p 3, .p 4] [] (aVals (aCons (hVal (eVar 0)) (aCons (hVal (eVar 5)) (aCons (hVal (eVar 8)) (aCons (hVal (eVar 10)) (aCons (hVal (eVar 4)) (aNil))))))) (aVals (aNil))))) (sDrop (eMut 7 gAppend (aVals (aCons (hVal (eTup (aCons (hVal (eVar 8)) (aCons (hVal (eFn gTuple (aCons (hVal (eVar 9)) (aNil)))) (aNil))))) (aNil))))))) (sFrz 7 (sRet (eTup (aCons (hVal (eVar 3)) (aCons (hVal (eFn gTuple (aCons (hVal (eVar 7)) (aNil)))) (aNil))))))))))
def fn__law_machine : Fn := runFn 11 d__law_machine
set_option maxRecDepth 100000 in
theorem ok__law_machine {f : Addr} {fd : FuncData} (C : Mod ⟨K, P, w⟩ mg) (F : FunD K "_law_machine" "_law_machine" (defArgs st__law_machine) (defBody st__law_machine) (defScope st__law_machine) [] [] f fd)
    {f__law_words : Addr} {fd__law_words : FuncData} (D__law_words : DefG P w K mg base cls 3 "_law_words" f__law_words fd__law_words ["_law_hand_here", "_law_many"] fn__law_words)
    {f__law_take : Addr} {fd__law_take : FuncData} (D__law_take : DefG P w K mg base cls 1 "_law_take" f__law_take fd__law_take ["_law_hand_here", "_law_many"] fn__law_take)
    {f__law_frame : Addr} {fd__law_frame : FuncData} (D__law_frame : DefG P w K mg base cls 3 "_law_frame" f__law_frame fd__law_frame ["_law_hand_here"] fn__law_frame)
    {f__law_lines : Addr} {fd__law_lines : FuncData} (D__law_lines : DefG P w K mg base cls 1 "_law_lines" f__law_lines fd__law_lines ["_law_terms", "_law_shape"] fn__law_lines)
    {f__law_rule : Addr} {fd__law_rule : FuncData} (D__law_rule : DefG P w K mg base cls 3 "_law_rule" f__law_rule fd__law_rule ["_law_hand_here", "_law_frames", "_law_shape", "_law_line", "_law_marks"] fn__law_rule)
    {mv3 : List Value} (b3 : KBn K fd__law_take ["_law_hand_here", "_law_many"] 2 [] (fun us ws => arr [.p 0, .p 1] us mv3 ws) (fun vs zs => arr [.p 0, .p 1] vs [] zs))
    {mv8 : List Value} (b8 : KBn K fd__law_words ["_law_hand_here", "_law_many"] 2 [] (fun us ws => arr [.p 0, .p 1] us mv8 ws) (fun vs zs => arr [.p 0, .p 1] vs [] zs))
    {mv9 : List Value} (b9 : KBn K fd__law_frame ["_law_hand_here"] 1 [] (fun us ws => arr [.p 0] us mv9 ws) (fun vs zs => arr [.p 0] vs [] zs))
    {mv10 : List Value} (b10 : KBn K fd__law_lines ["_law_terms", "_law_shape"] 2 [] (fun us ws => arr [.p 0, .p 1] us mv10 ws) (fun vs zs => arr [.p 0, .p 1] vs [] zs))
    {mv11 : List Value} (b11 : KBn K fd__law_rule ["_law_hand_here", "_law_frames", "_law_shape", "_law_line", "_law_marks"] 5 [] (fun us ws => arr [.p 0, .p 1, .p 2, .p 3, .p 4] us mv11 ws) (fun vs zs => arr [.p 0, .p 1, .p 2, .p 3, .p 4] vs [] zs)) :
    FnG P w K mg base 4 f fd ["_law_hand_here", "_law_most_words", "_law_most_stands"] (SpD ⟨K, P, w⟩ cls 3 fn__law_machine) := by
  refine fn_okG (N := ["_law_hand_here", "_law_most_words", "_law_most_stands", "_law_terms", "_law_marks", "_law_frames", "_law_k", "_law_stands", "_law_shape", "_law_rules", "_law_line"]) (ps := ["_law_hand_here", "_law_most_words", "_law_most_stands"]) (den := d__law_machine) (own := ownL [7]) F sc__law_machine (by decide) fun cdv A outer s H E hr gd => ?_
  have hu : (A.deeper (PyProof.Rows.envOfC "_law_machine" (defScope st__law_machine) s.heap.objs.size f cdv)).units + 65 < cLine := by have := hr.un; omega
  have h4 := Nat.lt_of_succ_lt hu
  have g0 : (A.deeper (PyProof.Rows.envOfC "_law_machine" (defScope st__law_machine) s.heap.objs.size f cdv)).guards = some [] := gd
  exact ss_cons (ss_set (i := 3) rfl sc__law_machine.nd rfl (by first | exact .inl rfl | exact .inr rfl) (yc D__law_words hr g0 b8 .nil (sa_cons (sh_val (xv)) (sa_cons (sh_val (se_op2 op_addU ok_add (sh_val (se_int)) (sh_val (yc D__law_take hr g0 b3 .nil (sa_cons (sh_val (xv)) (sa_cons (sh_val (xv)) (sa_nil))) (sk_nil) (fun vs zs l1 l2 => match vs, zs, l1, l2 with | [_, _], [], _, _ => rfl) (fun _ _ _ h => aCons_len (fun _ _ _ h => aCons_len (fun _ _ _ h => aNil_len h) h) h) (fun _ _ _ h => aNil_len h))))) (sa_nil))) (sk_nil) (fun vs zs l1 l2 => match vs, zs, l1, l2 with | [_, _], [], _, _ => rfl) (fun _ _ _ h => aCons_len (fun _ _ _ h => aCons_len (fun _ _ _ h => aNil_len h) h) h) (fun _ _ _ h => aNil_len h))) (ss_cons (ss_set (i := 4) rfl sc__law_machine.nd rfl (by first | exact .inl rfl | exact .inr rfl) (se_cut (sh_val (se_tup (sa_cons (sh_val (se_str)) (sa_cons (sh_val (se_str)) (sa_cons (sh_val (se_ixA hu (sh_val (xv)) (sh_val (se_int)) (by intro _ _; rfl))) (sa_nil)))))) (sp_no) (sp_int (se_op2 op_addU ok_add (sh_val (se_int)) (sh_val (yc D__law_take hr g0 b3 .nil (sa_cons (sh_val (xv)) (sa_cons (sh_val (se_int)) (sa_nil))) (sk_nil) (fun vs zs l1 l2 => match vs, zs, l1, l2 with | [_, _], [], _, _ => rfl) (fun _ _ _ h => aCons_len (fun _ _ _ h => aCons_len (fun _ _ _ h => aNil_len h) h) h) (fun _ _ _ h => aNil_len h))))))) (ss_cons (ss_set (i := 5) rfl sc__law_machine.nd rfl (by first | exact .inl rfl | exact .inr rfl) (se_op2 op_addU ok_add (sh_val (se_of (sf_lst (sa_cons (sh_val (se_tup (sa_nil))) (sa_nil))))) (sh_val (se_of (sf_lc (ow := [("_law_k", 6)]) rfl sc__law_machine.nd (si_range1 rfl C.m_range (sa_cons (sh_val (yc D__law_take hr g0 b3 .nil (sa_cons (sh_val (xv)) (sa_cons (sh_val (xv)) (sa_nil))) (sk_nil) (fun vs zs l1 l2 => match vs, zs, l1, l2 with | [_, _], [], _, _ => rfl) (fun _ _ _ h => aCons_len (fun _ _ _ h => aCons_len (fun _ _ _ h => aNil_len h) h) h) (fun _ _ _ h => aNil_len h))) (sa_nil))) (blkOk_by (by kernel_rfl)) (fun _ _ _ _ _ => sg_name (i := 6) rfl sc__law_machine.nd rfl (by first | exact .inl rfl | exact .inr rfl)) (fun _ _ _ _ _ => sbs_nil) (fun _ _ _ _ _ => yc D__law_frame hr g0 b9 .nil (sa_cons (sh_val (xv)) (sa_nil)) (sk_nil) (fun vs zs l1 l2 => match vs, zs, l1, l2 with | [_], [], _, _ => rfl) (fun _ _ _ h => aCons_len (fun _ _ _ h => aNil_len h) h) (fun _ _ _ h => aNil_len h)) (by decide) (by decide)))))) (ss_cons (ss_own (i := 7) rfl sc__law_machine.nd rfl (by first | exact .inl rfl | exact .inr rfl) (sf_lst (sa_nil))) (ss_cons (ss_for PassesOwn.never rfl (si_seq (xv)) (sg_name (i := 8) rfl sc__law_machine.nd rfl (by first | exact .inl rfl | exact .inr rfl)) (ss_cons (ss_setLc (i := 9) (ow := [("_law_line", 10)]) rfl rfl sc__law_machine.nd rfl rfl rfl (si_seq (yc D__law_lines hr g0 b10 .nil (sa_cons (sh_val (xv)) (sa_cons (sh_val (xv)) (sa_nil))) (sk_nil) (fun vs zs l1 l2 => match vs, zs, l1, l2 with | [_, _], [], _, _ => rfl) (fun _ _ _ h => aCons_len (fun _ _ _ h => aCons_len (fun _ _ _ h => aNil_len h) h) h) (fun _ _ _ h => aNil_len h))) (blkOk_by (by kernel_rfl)) (fun _ _ _ _ _ => sg_name (i := 10) rfl sc__law_machine.nd rfl (by first | exact .inl rfl | exact .inr rfl)) (fun _ _ _ _ _ => sbs_nil) (fun _ _ _ _ _ => yc D__law_rule hr g0 b11 .nil (sa_cons (sh_val (xv)) (sa_cons (sh_val (xv)) (sa_cons (sh_val (xv)) (sa_cons (sh_val (xv)) (sa_cons (sh_val (xv)) (sa_nil)))))) (sk_nil) (fun vs zs l1 l2 => match vs, zs, l1, l2 with | [_, _, _, _, _], [], _, _ => rfl) (fun _ _ _ h => aCons_len (fun _ _ _ h => aCons_len (fun _ _ _ h => aCons_len (fun _ _ _ h => aCons_len (fun _ _ _ h => aCons_len (fun _ _ _ h => aNil_len h) h) h) h) h) h) (fun _ _ _ h => aNil_len h)) (by decide) (by decide)) (ss_one (ss_expr (se_append (i := 7) rfl (by first | exact .inl rfl | exact .inr (.inl rfl) | exact .inr (.inr rfl)) rfl (sa_cons (sh_val (se_tup (sa_cons (sh_val (xv)) (sa_cons (sh_val (se_callTy cr_tupleF ok_tuple rfl C.m_tuple bt_tuple (sa_cons (sh_val (xv)) (sa_nil)))) (sa_nil))))) (sa_nil))))))) (ss_frz 7 rfl (ss_one (ss_ret (se_tup (sa_cons (sh_val (xv)) (sa_cons (sh_val (se_callTy cr_tupleF ok_tuple rfl C.m_tuple bt_tuple (sa_cons (sh_val (xv)) (sa_nil)))) (sa_nil)))))))))))
abbrev st__law_right : Stmt := top 24
theorem sc__law_right : FnScope ["_law_hand_here", "_law_made", "_law_terms", "_law_stands", "_law_number", "_law_shape", "_law_rules", "_law_lines_here", "_law_one", "_law_term", "_law_spot"] ["_law_hand_here"] (defScope st__law_right) := ⟨rfl, rfl, rfl, by decide +kernel, rfl, by decide +kernel, by decide +kernel⟩
def d__law_right : Den Fl := sSeq (sSet 1 (eCallK fn__law_machine [.p 0, .p 1, .p 2] [] (aVals (aCons (hVal (eVar 0)) (aCons (hVal (eC (.int 3))) (aCons (hVal (eC (.int 4))) (aNil))))) (aVals (aNil)))) (sSeq (sAsg (.tp [.nm 2, .nm 3]) (eVar 1)) (sSeq (sFor (iEnum (aCons (hVal (eVar 3)) (aNil))) (.tp [.nm 4, .tp [.nm 5, .nm 6]]) (sSeq (sSet 7 (eCallK fn__law_lines [.p 0, .p 1] [] (aVals (aCons (hVal (eVar 2)) (aCons (hVal (eVar 5)) (aNil)))) (aVals (aNil)))) (sSeq (sIf (bOr (bOf (eOp gNe (hVal (eCallK fn_lines_of [.p 0, .p 1] [] (aVals (aCons (hVal (eVar 2)) (aCons (hVal (eVar 5)) (aNil)))) (aVals (aNil)))) (hVal (eFn gTuple (aCons (hVal (eVar 7)) (aNil)))))) (bOf (eOp gNe (hVal (eCallK fn_lines_of [.k 1, .k 0] [] (aVals (aNil)) (aVals (aCons (hVal (eVar 5)) (aCons (hVal (eVar 2)) (aNil)))))) (hVal (eFn gTuple (aCons (hVal (eVar 7)) (aNil))))))) (sRet (eC (.bl false))) (sNx)) (sFor (iZip2 (aCons (hVal (eVar 6)) (aCons (hVal (eVar 7)) (aNil)))) (.tp [.nm 8, .tp [.nm 9, .nm 10]]) (sSeq (sIf (bOf (eOp gNe (hVal (eCallK fn_rule [.p 0, .p 1, .p 2, .p 3] [] (aVals (aCons (hVal (eVar 1)) (aCons (hVal (eVar 4)) (aCons (hVal (eVar 9)) (aCons (hVal (eVar 10)) (aNil)))))) (aVals (aNil)))) (hVal (eVar 8)))) (sRet (eC (.bl false))) (sNx)) (sIf (bOf (eOp gNe (hVal (eCallK fn_rule [.k 3, .k 2, .k 1, .k 0] [] (aVals (aNil)) (aVals (aCons (hVal (eVar 10)) (aCons (hVal (eVar 9)) (aCons (hVal (eVar 4)) (aCons (hVal (eVar 1)) (aNil)))))))) (hVal (eVar 8)))) (sRet (eC (.bl false))) (sNx))))))) (sSeq (sFor (iSeq (eLst (aCons (hVal (eVar 1)) (aCons (hVal (eCallK fn__law_cut [.p 0, .p 1] [] (aVals (aCons (hVal (eVar 0)) (aCons (hVal (eVar 1)) (aNil)))) (aVals (aNil)))) (aCons (hVal (eCallK fn__law_cut [.p 0, .p 1] [] (aVals (aCons (hVal (eVar 0)) (aCons (hVal (eCallK fn__law_cut [.p 0, .p 1] [] (aVals (aCons (hVal (eVar 0)) (aCons (hVal (eVar 1)) (aNil)))) (aVals (aNil)))) (aNil)))) (aVals (aNil)))) (aNil)))))) (.nm 8) (sIf (bOr (bOf (eOp gNe (hVal (eCallK fn_reached [.p 0] [] (aVals (aCons (hVal (eVar 8)) (aNil))) (aVals (aNil)))) (hVal (eCallK fn__law_reached [.p 0] [] (aVals (aCons (hVal (eVar 8)) (aNil))) (aVals (aNil)))))) (bOf (eOp gNe (hVal (eCallK fn_reached [.k 0] [] (aVals (aNil)) (aVals (aCons (hVal (eVar 8)) (aNil))))) (hVal (eCallK fn__law_reached [.p 0] [] (aVals (aCons (hVal (eVar 8)) (aNil))) (aVals (aNil))))))) (sRet (eC (.bl false))) (sNx))) (sRet (eC (.bl true))))))
def fn__law_right : Fn := runFn 11 d__law_right
set_option maxRecDepth 100000 in
theorem ok__law_right {f : Addr} {fd : FuncData} (C : Mod ⟨K, P, w⟩ mg) (F : FunD K "_law_right" "_law_right" (defArgs st__law_right) (defBody st__law_right) (defScope st__law_right) [] [] f fd)
    {f__law_machine : Addr} {fd__law_machine : FuncData} (D__law_machine : DefG P w K mg base cls 4 "_law_machine" f__law_machine fd__law_machine ["_law_hand_here", "_law_most_words", "_law_most_stands"] fn__law_machine)
    {f__law_lines : Addr} {fd__law_lines : FuncData} (D__law_lines : DefG P w K mg base cls 1 "_law_lines" f__law_lines fd__law_lines ["_law_terms", "_law_shape"] fn__law_lines)
    {f_lines_of : Addr} {fd_lines_of : FuncData} (D_lines_of : DefG P w K mg base cls 2 "lines_of" f_lines_of fd_lines_of ["words", "frame"] fn_lines_of)
    {f_rule : Addr} {fd_rule : FuncData} (D_rule : DefG P w K mg base cls 3 "rule" f_rule fd_rule ["machine", "stand", "word", "case"] fn_rule)
    {f__law_cut : Addr} {fd__law_cut : FuncData} (D__law_cut : DefG P w K mg base cls 2 "_law_cut" f__law_cut fd__law_cut ["_law_hand_here", "_law_made"] fn__law_cut)
    {f_reached : Addr} {fd_reached : FuncData} (D_reached : DefG P w K mg base cls 1 "reached" f_reached fd_reached ["machine"] fn_reached)
    {f__law_reached : Addr} {fd__law_reached : FuncData} (D__law_reached : DefG P w K mg base cls 1 "_law_reached" f__law_reached fd__law_reached ["_law_made"] fn__law_reached)
    {mv2 : List Value} (b2 : KBn K fd_lines_of ["words", "frame"] 2 [] (fun us ws => arr [.p 0, .p 1] us mv2 ws) (fun vs zs => arr [.p 0, .p 1] vs [] zs))
    {mv10 : List Value} (b10 : KBn K fd__law_lines ["_law_terms", "_law_shape"] 2 [] (fun us ws => arr [.p 0, .p 1] us mv10 ws) (fun vs zs => arr [.p 0, .p 1] vs [] zs))
    {mv12 : List Value} (b12 : KBn K fd__law_machine ["_law_hand_here", "_law_most_words", "_law_most_stands"] 3 [] (fun us ws => arr [.p 0, .p 1, .p 2] us mv12 ws) (fun vs zs => arr [.p 0, .p 1, .p 2] vs [] zs))
    {mv13 : List Value} (b13 : KBn K fd_lines_of ["words", "frame"] 0 ["frame", "words"] (fun us ws => arr [.k 1, .k 0] us mv13 ws) (fun vs zs => arr [.k 1, .k 0] vs [] zs))
    {mv14 : List Value} (b14 : KBn K fd_rule ["machine", "stand", "word", "case"] 4 [] (fun us ws => arr [.p 0, .p 1, .p 2, .p 3] us mv14 ws) (fun vs zs => arr [.p 0, .p 1, .p 2, .p 3] vs [] zs))
    {mv15 : List Value} (b15 : KBn K fd_rule ["machine", "stand", "word", "case"] 0 ["case", "word", "stand", "machine"] (fun us ws => arr [.k 3, .k 2, .k 1, .k 0] us mv15 ws) (fun vs zs => arr [.k 3, .k 2, .k 1, .k 0] vs [] zs))
    {mv16 : List Value} (b16 : KBn K fd__law_cut ["_law_hand_here", "_law_made"] 2 [] (fun us ws => arr [.p 0, .p 1] us mv16 ws) (fun vs zs => arr [.p 0, .p 1] vs [] zs))
    {mv17 : List Value} (b17 : KBn K fd_reached ["machine"] 1 [] (fun us ws => arr [.p 0] us mv17 ws) (fun vs zs => arr [.p 0] vs [] zs))
    {mv18 : List Value} (b18 : KBn K fd__law_reached ["_law_made"] 1 [] (fun us ws => arr [.p 0] us mv18 ws) (fun vs zs => arr [.p 0] vs [] zs))
    {mv19 : List Value} (b19 : KBn K fd_reached ["machine"] 0 ["machine"] (fun us ws => arr [.k 0] us mv19 ws) (fun vs zs => arr [.k 0] vs [] zs)) :
    FnG P w K mg base 5 f fd ["_law_hand_here"] (SpD ⟨K, P, w⟩ cls 1 fn__law_right) := by
  refine fn_okG (N := ["_law_hand_here", "_law_made", "_law_terms", "_law_stands", "_law_number", "_law_shape", "_law_rules", "_law_lines_here", "_law_one", "_law_term", "_law_spot"]) (ps := ["_law_hand_here"]) (den := d__law_right) (own := ownL []) F sc__law_right (by decide) fun cdv A outer s H E hr gd => ?_
  have hu : (A.deeper (PyProof.Rows.envOfC "_law_right" (defScope st__law_right) s.heap.objs.size f cdv)).units + 65 < cLine := by have := hr.un; omega
  have h4 := Nat.lt_of_succ_lt hu
  have g0 : (A.deeper (PyProof.Rows.envOfC "_law_right" (defScope st__law_right) s.heap.objs.size f cdv)).guards = some [] := gd
  exact ss_cons (ss_set (i := 1) rfl sc__law_right.nd rfl (by first | exact .inl rfl | exact .inr rfl) (yc D__law_machine hr g0 b12 .nil (sa_cons (sh_val (xv)) (sa_cons (sh_val (se_int)) (sa_cons (sh_val (se_int)) (sa_nil)))) (sk_nil) (fun vs zs l1 l2 => match vs, zs, l1, l2 with | [_, _, _], [], _, _ => rfl) (fun _ _ _ h => aCons_len (fun _ _ _ h => aCons_len (fun _ _ _ h => aCons_len (fun _ _ _ h => aNil_len h) h) h) h) (fun _ _ _ h => aNil_len h))) (ss_cons (ss_asg (xv) (sg_tup rfl (sgs_cons (sg_name (i := 2) rfl sc__law_right.nd rfl (by first | exact .inl rfl | exact .inr rfl)) (sgs_cons (sg_name (i := 3) rfl sc__law_right.nd rfl (by first | exact .inl rfl | exact .inr rfl)) (sgs_nil))) rfl)) (ss_cons (ss_for PassesOwn.never rfl (si_enum rfl C.m_enumerate (sa_cons (sh_val (xv)) (sa_nil))) (sg_tup rfl (sgs_cons (sg_name (i := 4) rfl sc__law_right.nd rfl (by first | exact .inl rfl | exact .inr rfl)) (sgs_cons (sg_tup rfl (sgs_cons (sg_name (i := 5) rfl sc__law_right.nd rfl (by first | exact .inl rfl | exact .inr rfl)) (sgs_cons (sg_name (i := 6) rfl sc__law_right.nd rfl (by first | exact .inl rfl | exact .inr rfl)) (sgs_nil))) rfl) (sgs_nil))) rfl) (ss_cons (ss_set (i := 7) rfl sc__law_right.nd rfl (by first | exact .inl rfl | exact .inr rfl) (yc D__law_lines hr g0 b10 .nil (sa_cons (sh_val (xv)) (sa_cons (sh_val (xv)) (sa_nil))) (sk_nil) (fun vs zs l1 l2 => match vs, zs, l1, l2 with | [_, _], [], _, _ => rfl) (fun _ _ _ h => aCons_len (fun _ _ _ h => aCons_len (fun _ _ _ h => aNil_len h) h) h) (fun _ _ _ h => aNil_len h))) (ss_cons (ss_if (sb_w (sw_or (sb_cmp (op_neD h4) ok_neD (sh_val (yc D_lines_of hr g0 b2 .nil (sa_cons (sh_val (xv)) (sa_cons (sh_val (xv)) (sa_nil))) (sk_nil) (fun vs zs l1 l2 => match vs, zs, l1, l2 with | [_, _], [], _, _ => rfl) (fun _ _ _ h => aCons_len (fun _ _ _ h => aCons_len (fun _ _ _ h => aNil_len h) h) h) (fun _ _ _ h => aNil_len h))) (sh_val (se_callTy cr_tupleF ok_tuple rfl C.m_tuple bt_tuple (sa_cons (sh_val (xv)) (sa_nil))))) (sw_or1 (sb_cmp (op_neD h4) ok_neD (sh_val (yc0 D_lines_of hr g0 b13 .nil (sk_cons (sh_val (xv)) (sk_cons (sh_val (xv)) (sk_nil))) (fun vs zs l1 l2 => match vs, zs, l1, l2 with | [], [_, _], _, _ => rfl) (fun _ _ _ h => aCons_len (fun _ _ _ h => aCons_len (fun _ _ _ h => aNil_len h) h) h))) (sh_val (se_callTy cr_tupleF ok_tuple rfl C.m_tuple bt_tuple (sa_cons (sh_val (xv)) (sa_nil)))))))) (ss_one (ss_ret (se_bl))) (ss_nil)) (ss_one (ss_for PassesOwn.never rfl (si_zip rfl C.m_zip (sa_cons (sh_val (xv)) (sa_cons (sh_val (xv)) (sa_nil)))) (sg_tup rfl (sgs_cons (sg_name (i := 8) rfl sc__law_right.nd rfl (by first | exact .inl rfl | exact .inr rfl)) (sgs_cons (sg_tup rfl (sgs_cons (sg_name (i := 9) rfl sc__law_right.nd rfl (by first | exact .inl rfl | exact .inr rfl)) (sgs_cons (sg_name (i := 10) rfl sc__law_right.nd rfl (by first | exact .inl rfl | exact .inr rfl)) (sgs_nil))) rfl) (sgs_nil))) rfl) (ss_cons (ss_if (sb_cmp (op_neD h4) ok_neD (sh_val (yc D_rule hr g0 b14 .nil (sa_cons (sh_val (xv)) (sa_cons (sh_val (xv)) (sa_cons (sh_val (xv)) (sa_cons (sh_val (xv)) (sa_nil))))) (sk_nil) (fun vs zs l1 l2 => match vs, zs, l1, l2 with | [_, _, _, _], [], _, _ => rfl) (fun _ _ _ h => aCons_len (fun _ _ _ h => aCons_len (fun _ _ _ h => aCons_len (fun _ _ _ h => aCons_len (fun _ _ _ h => aNil_len h) h) h) h) h) (fun _ _ _ h => aNil_len h))) (sh_val (xv))) (ss_one (ss_ret (se_bl))) (ss_nil)) (ss_one (ss_if (sb_cmp (op_neD h4) ok_neD (sh_val (yc0 D_rule hr g0 b15 .nil (sk_cons (sh_val (xv)) (sk_cons (sh_val (xv)) (sk_cons (sh_val (xv)) (sk_cons (sh_val (xv)) (sk_nil))))) (fun vs zs l1 l2 => match vs, zs, l1, l2 with | [], [_, _, _, _], _, _ => rfl) (fun _ _ _ h => aCons_len (fun _ _ _ h => aCons_len (fun _ _ _ h => aCons_len (fun _ _ _ h => aCons_len (fun _ _ _ h => aNil_len h) h) h) h) h))) (sh_val (xv))) (ss_one (ss_ret (se_bl))) (ss_nil))))))))) (ss_cons (ss_for PassesOwn.never rfl (si_seq (se_of (sf_lst (sa_cons (sh_val (xv)) (sa_cons (sh_val (yc D__law_cut hr g0 b16 .nil (sa_cons (sh_val (xv)) (sa_cons (sh_val (xv)) (sa_nil))) (sk_nil) (fun vs zs l1 l2 => match vs, zs, l1, l2 with | [_, _], [], _, _ => rfl) (fun _ _ _ h => aCons_len (fun _ _ _ h => aCons_len (fun _ _ _ h => aNil_len h) h) h) (fun _ _ _ h => aNil_len h))) (sa_cons (sh_val (yc D__law_cut hr g0 b16 .nil (sa_cons (sh_val (xv)) (sa_cons (sh_val (yc D__law_cut hr g0 b16 .nil (sa_cons (sh_val (xv)) (sa_cons (sh_val (xv)) (sa_nil))) (sk_nil) (fun vs zs l1 l2 => match vs, zs, l1, l2 with | [_, _], [], _, _ => rfl) (fun _ _ _ h => aCons_len (fun _ _ _ h => aCons_len (fun _ _ _ h => aNil_len h) h) h) (fun _ _ _ h => aNil_len h))) (sa_nil))) (sk_nil) (fun vs zs l1 l2 => match vs, zs, l1, l2 with | [_, _], [], _, _ => rfl) (fun _ _ _ h => aCons_len (fun _ _ _ h => aCons_len (fun _ _ _ h => aNil_len h) h) h) (fun _ _ _ h => aNil_len h))) (sa_nil))))))) (sg_name (i := 8) rfl sc__law_right.nd rfl (by first | exact .inl rfl | exact .inr rfl)) (ss_one (ss_if (sb_w (sw_or (sb_cmp (op_neD h4) ok_neD (sh_val (yc D_reached hr g0 b17 .nil (sa_cons (sh_val (xv)) (sa_nil)) (sk_nil) (fun vs zs l1 l2 => match vs, zs, l1, l2 with | [_], [], _, _ => rfl) (fun _ _ _ h => aCons_len (fun _ _ _ h => aNil_len h) h) (fun _ _ _ h => aNil_len h))) (sh_val (yc D__law_reached hr g0 b18 .nil (sa_cons (sh_val (xv)) (sa_nil)) (sk_nil) (fun vs zs l1 l2 => match vs, zs, l1, l2 with | [_], [], _, _ => rfl) (fun _ _ _ h => aCons_len (fun _ _ _ h => aNil_len h) h) (fun _ _ _ h => aNil_len h)))) (sw_or1 (sb_cmp (op_neD h4) ok_neD (sh_val (yc0 D_reached hr g0 b19 .nil (sk_cons (sh_val (xv)) (sk_nil)) (fun vs zs l1 l2 => match vs, zs, l1, l2 with | [], [_], _, _ => rfl) (fun _ _ _ h => aCons_len (fun _ _ _ h => aNil_len h) h))) (sh_val (yc D__law_reached hr g0 b18 .nil (sa_cons (sh_val (xv)) (sa_nil)) (sk_nil) (fun vs zs l1 l2 => match vs, zs, l1, l2 with | [_], [], _, _ => rfl) (fun _ _ _ h => aCons_len (fun _ _ _ h => aNil_len h) h) (fun _ _ _ h => aNil_len h))))))) (ss_one (ss_ret (se_bl))) (ss_nil)))) (ss_one (ss_ret (se_bl))))))
abbrev st_law : Stmt := top 25
theorem sc_law : FnScope ["_law_script", "_law_k"] ["_law_script"] (defScope st_law) := ⟨rfl, rfl, rfl, by decide +kernel, rfl, by decide +kernel, by decide +kernel⟩
def d_law : Den Fl := sRet (eFn gAll (aCons (hVal (eLc (iRange1 (aCons (hVal (eFn gMax2 (aCons (hVal (eC (.int 1))) (aCons (hVal (eFn gMin2 (aCons (hVal (eFn gLen (aCons (hVal (eVar 0)) (aNil)))) (aCons (hVal (eC (.int 3))) (aNil))))) (aNil))))) (aNil))) [1] (.nm 1) (.ret true) (eCallK fn__law_right [.p 0] [] (aVals (aCons (hVal (eCallK fn__law_hand [.p 0, .p 1] [] (aVals (aCons (hVal (eVar 0)) (aCons (hVal (eVar 1)) (aNil)))) (aVals (aNil)))) (aNil))) (aVals (aNil))))) (aNil)))
def fn_law : Fn := runFn 2 d_law
set_option maxRecDepth 100000 in
theorem ok_law {f : Addr} {fd : FuncData} (C : Mod ⟨K, P, w⟩ mg) (F : FunD K "law" "law" (defArgs st_law) (defBody st_law) (defScope st_law) [] [] f fd)
    {f__law_right : Addr} {fd__law_right : FuncData} (D__law_right : DefG P w K mg base cls 5 "_law_right" f__law_right fd__law_right ["_law_hand_here"] fn__law_right)
    {f__law_hand : Addr} {fd__law_hand : FuncData} (D__law_hand : DefG P w K mg base cls 1 "_law_hand" f__law_hand fd__law_hand ["_law_script", "_law_k"] fn__law_hand)
    {mv20 : List Value} (b20 : KBn K fd__law_right ["_law_hand_here"] 1 [] (fun us ws => arr [.p 0] us mv20 ws) (fun vs zs => arr [.p 0] vs [] zs))
    {mv21 : List Value} (b21 : KBn K fd__law_hand ["_law_script", "_law_k"] 2 [] (fun us ws => arr [.p 0, .p 1] us mv21 ws) (fun vs zs => arr [.p 0, .p 1] vs [] zs)) :
    FnG P w K mg base 6 f fd ["_law_script"] (SpD ⟨K, P, w⟩ cls 1 fn_law) := by
  refine fn_okG (N := ["_law_script", "_law_k"]) (ps := ["_law_script"]) (den := d_law) (own := ownL []) F sc_law (by decide) fun cdv A outer s H E hr gd => ?_
  have hu : (A.deeper (PyProof.Rows.envOfC "law" (defScope st_law) s.heap.objs.size f cdv)).units + 65 < cLine := by have := hr.un; omega
  have h4 := Nat.lt_of_succ_lt hu
  have g0 : (A.deeper (PyProof.Rows.envOfC "law" (defScope st_law) s.heap.objs.size f cdv)).guards = some [] := gd
  exact ss_one (ss_ret (se_callB (cr_all rfl) ok_all rfl C.m_all bt_all (sa_cons (sh_val (se_of (sf_lc (ow := [("_law_k", 1)]) rfl sc_law.nd (si_range1 rfl C.m_range (sa_cons (sh_val (se_callB (call_max2 rfl) ok_max2 rfl C.m_max bt_max (sa_cons (sh_val (se_int)) (sa_cons (sh_val (se_callB (call_min2 rfl) ok_min2 rfl C.m_min bt_min (sa_cons (sh_val (se_callB cr_lenU ok_len rfl C.m_len bt_len (sa_cons (sh_val (xv)) (sa_nil)))) (sa_cons (sh_val (se_int)) (sa_nil))))) (sa_nil))))) (sa_nil))) (blkOk_by (by kernel_rfl)) (fun _ _ _ _ _ => sg_name (i := 1) rfl sc_law.nd rfl (by first | exact .inl rfl | exact .inr rfl)) (fun _ _ _ _ _ => sbs_nil) (fun _ _ _ _ _ => yc D__law_right hr g0 b20 .nil (sa_cons (sh_val (yc D__law_hand hr g0 b21 .nil (sa_cons (sh_val (xv)) (sa_cons (sh_val (xv)) (sa_nil))) (sk_nil) (fun vs zs l1 l2 => match vs, zs, l1, l2 with | [_, _], [], _, _ => rfl) (fun _ _ _ h => aCons_len (fun _ _ _ h => aCons_len (fun _ _ _ h => aNil_len h) h) h) (fun _ _ _ h => aNil_len h))) (sa_nil)) (sk_nil) (fun vs zs l1 l2 => match vs, zs, l1, l2 with | [_], [], _, _ => rfl) (fun _ _ _ h => aCons_len (fun _ _ _ h => aNil_len h) h) (fun _ _ _ h => aNil_len h)) (by decide) (by decide)))) (sa_nil))))
end

end Lk10

namespace Lk10
open PySem PySem.Spec L2 MI
abbrev Fr := List Nat
abbrev frD (f : Fr) : D := .tup (f.map fun n => .int (n : Nat))
def FR : List Fr := [[], [0], [1], [2], [0, 0], [0, 1], [0, 2], [1, 0], [1, 1], [1, 2], [2, 0], [2, 1], [2, 2]]
abbrev Th := List (Int × List (Int × Int))
abbrev hD (h : Int) : D := .tup [.int h]
abbrev thD (t : Th) : D := .dit (t.map fun q => (hD q.1, .lst (q.2.map qD)))
/-- the cases of a frame, of joins -/
def ixF (k : Nat) : Fr → List (Int × Int)
  | [] => []
  | n :: f => (List.range (n + 1)).map (fun (j : Nat) => ((k : Int), (j : Int) - 1)) ++ ixF (k + 1) f
def cs (f : Fr) : List (Int × Int) := (-1, -1) :: ixF 0 f
def jc (f : Fr) : List (Int × Int) := [(-1, -1)] ++ (List.range f.length).map (fun (i : Nat) => ((-1 : Int), (i : Int))) ++ (if f.length = 2 then [(0, 1)] else [])
def th0 (k : Nat) : Fr → Th
  | [] => []
  | n :: f => ((k : Int), (List.range n).map fun (j : Nat) => ((k : Int), (j : Int))) :: th0 (k + 1) f
def thN (f : Fr) (c : Int × Int) : Th := if c = (-1, -1) then th0 0 f ++ [(-1, [(-1, -1)])] else if c.2 = -1 then (th0 0 f).map (fun q => if q.1 = c.1 then (q.1, c :: q.2) else q) else th0 0 f
def thJ (f : Fr) (c : Int × Int) : Th := if 0 ≤ c.1 then [(0, (th0 0 f).flatMap (·.2))] else if c.2 < 0 then th0 0 f ++ [(-1, [])] else th0 0 f
/-- the fills -/
def fl (t : Th) (f : Fr) : List (List Int) := f.foldl (fun rows n => rows.flatMap fun row => ((srtI (t.map (·.1))).filter fun h => decide (n ≤ ((t.lookup h).getD []).length) && !row.contains h).map fun h => row ++ [h]) [[]]
abbrev rowD (r : List Int) : D := .tup (r.map hD)

def T0 : Th := [(-1, [(-1, -1)])]
def T1 : Th := [(-1, [])]
def T2 : Th := [(0, []), (-1, [(-1, -1)])]
def T3 : Th := [(0, [(0, -1)])]
def T4 : Th := [(0, []), (-1, [])]
def T5 : Th := [(0, [])]
def T6 : Th := [(0, [(0, 0)]), (-1, [(-1, -1)])]
def T7 : Th := [(0, [(0, -1), (0, 0)])]
def T8 : Th := [(0, [(0, 0)])]
def T9 : Th := [(0, [(0, 0)]), (-1, [])]
def T10 : Th := [(0, [(0, 0), (0, 1)]), (-1, [(-1, -1)])]
def T11 : Th := [(0, [(0, -1), (0, 0), (0, 1)])]
def T12 : Th := [(0, [(0, 0), (0, 1)])]
def T13 : Th := [(0, [(0, 0), (0, 1)]), (-1, [])]
def T14 : Th := [(0, []), (1, []), (-1, [(-1, -1)])]
def T15 : Th := [(0, [(0, -1)]), (1, [])]
def T16 : Th := [(0, []), (1, [(1, -1)])]
def T17 : Th := [(0, []), (1, []), (-1, [])]
def T18 : Th := [(0, []), (1, [])]
def T19 : Th := [(0, []), (1, [(1, 0)]), (-1, [(-1, -1)])]
def T20 : Th := [(0, [(0, -1)]), (1, [(1, 0)])]
def T21 : Th := [(0, []), (1, [(1, -1), (1, 0)])]
def T22 : Th := [(0, []), (1, [(1, 0)])]
def T23 : Th := [(0, []), (1, [(1, 0)]), (-1, [])]
def T24 : Th := [(0, [(1, 0)])]
def T25 : Th := [(0, []), (1, [(1, 0), (1, 1)]), (-1, [(-1, -1)])]
def T26 : Th := [(0, [(0, -1)]), (1, [(1, 0), (1, 1)])]
def T27 : Th := [(0, []), (1, [(1, -1), (1, 0), (1, 1)])]
def T28 : Th := [(0, []), (1, [(1, 0), (1, 1)])]
def T29 : Th := [(0, []), (1, [(1, 0), (1, 1)]), (-1, [])]
def T30 : Th := [(0, [(1, 0), (1, 1)])]
def T31 : Th := [(0, [(0, 0)]), (1, []), (-1, [(-1, -1)])]
def T32 : Th := [(0, [(0, -1), (0, 0)]), (1, [])]
def T33 : Th := [(0, [(0, 0)]), (1, [])]
def T34 : Th := [(0, [(0, 0)]), (1, [(1, -1)])]
def T35 : Th := [(0, [(0, 0)]), (1, []), (-1, [])]
def T36 : Th := [(0, [(0, 0)]), (1, [(1, 0)]), (-1, [(-1, -1)])]
def T37 : Th := [(0, [(0, -1), (0, 0)]), (1, [(1, 0)])]
def T38 : Th := [(0, [(0, 0)]), (1, [(1, 0)])]
def T39 : Th := [(0, [(0, 0)]), (1, [(1, -1), (1, 0)])]
def T40 : Th := [(0, [(0, 0)]), (1, [(1, 0)]), (-1, [])]
def T41 : Th := [(0, [(0, 0), (1, 0)])]
def T42 : Th := [(0, [(0, 0)]), (1, [(1, 0), (1, 1)]), (-1, [(-1, -1)])]
def T43 : Th := [(0, [(0, -1), (0, 0)]), (1, [(1, 0), (1, 1)])]
def T44 : Th := [(0, [(0, 0)]), (1, [(1, 0), (1, 1)])]
def T45 : Th := [(0, [(0, 0)]), (1, [(1, -1), (1, 0), (1, 1)])]
def T46 : Th := [(0, [(0, 0)]), (1, [(1, 0), (1, 1)]), (-1, [])]
def T47 : Th := [(0, [(0, 0), (1, 0), (1, 1)])]
def T48 : Th := [(0, [(0, 0), (0, 1)]), (1, []), (-1, [(-1, -1)])]
def T49 : Th := [(0, [(0, -1), (0, 0), (0, 1)]), (1, [])]
def T50 : Th := [(0, [(0, 0), (0, 1)]), (1, [])]
def T51 : Th := [(0, [(0, 0), (0, 1)]), (1, [(1, -1)])]
def T52 : Th := [(0, [(0, 0), (0, 1)]), (1, []), (-1, [])]
def T53 : Th := [(0, [(0, 0), (0, 1)]), (1, [(1, 0)]), (-1, [(-1, -1)])]
def T54 : Th := [(0, [(0, -1), (0, 0), (0, 1)]), (1, [(1, 0)])]
def T55 : Th := [(0, [(0, 0), (0, 1)]), (1, [(1, 0)])]
def T56 : Th := [(0, [(0, 0), (0, 1)]), (1, [(1, -1), (1, 0)])]
def T57 : Th := [(0, [(0, 0), (0, 1)]), (1, [(1, 0)]), (-1, [])]
def T58 : Th := [(0, [(0, 0), (0, 1), (1, 0)])]
def T59 : Th := [(0, [(0, 0), (0, 1)]), (1, [(1, 0), (1, 1)]), (-1, [(-1, -1)])]
def T60 : Th := [(0, [(0, -1), (0, 0), (0, 1)]), (1, [(1, 0), (1, 1)])]
def T61 : Th := [(0, [(0, 0), (0, 1)]), (1, [(1, 0), (1, 1)])]
def T62 : Th := [(0, [(0, 0), (0, 1)]), (1, [(1, -1), (1, 0), (1, 1)])]
def T63 : Th := [(0, [(0, 0), (0, 1)]), (1, [(1, 0), (1, 1)]), (-1, [])]
def T64 : Th := [(0, [(0, 0), (0, 1), (1, 0), (1, 1)])]
def AT : List Th := [T0, T1, T2, T3, T4, T5, T6, T7, T8, T9, T10, T11, T12, T13, T14, T15, T16, T17, T18, T19, T20, T21, T22, T23, T24, T25, T26, T27, T28, T29, T30, T31, T32, T33, T34, T35, T36, T37, T38, T39, T40, T41, T42, T43, T44, T45, T46, T47, T48, T49, T50, T51, T52, T53, T54, T55, T56, T57, T58, T59, T60, T61, T62, T63, T64]
theorem thN_mem : ∀ f ∈ FR, ∀ c ∈ cs f, thN f c ∈ AT := by decide +kernel
theorem thJ_mem : ∀ f ∈ FR, ∀ c ∈ jc f, thJ f c ∈ AT := by decide +kernel
def dTF : Den Fl := (sFor (iEnum (aCons (hVal (eVar 0)) (aNil))) (.tp [.nm 4, .nm 5]) (sPut 3 (hVal (eTup (aCons (hVal (eVar 4)) (aNil)))) (eLc (iRange1 (aCons (hVal (eVar 5)) (aNil))) [6] (.nm 6) (.ret true) (eTup (aCons (hVal (eVar 4)) (aCons (hVal (eVar 6)) (aNil)))))))
def dTN : Den Fl := (sIf (bOf (eOp gEq (hVal (eVar 2)) (hVal (eTup (aCons (hVal (eUn gNeg (hVal (eC (.int 1))))) (aCons (hVal (eUn gNeg (hVal (eC (.int 1))))) (aNil))))))) (sPut 3 (hVal (eTup (aCons (hVal (eUn gNeg (hVal (eC (.int 1))))) (aNil)))) (eLst (aCons (hVal (eTup (aCons (hVal (eUn gNeg (hVal (eC (.int 1))))) (aCons (hVal (eUn gNeg (hVal (eC (.int 1))))) (aNil))))) (aNil)))) (sIf (bOf (eOp gEq (hVal (eOp gIxA (hVal (eVar 2)) (hVal (eC (.int 1))))) (hVal (eUn gNeg (hVal (eC (.int 1))))))) (sPut 3 (hVal (eTup (aCons (hVal (eOp gIxA (hVal (eVar 2)) (hVal (eC (.int 0))))) (aNil)))) (eOp gAdd (hVal (eLst (aCons (hVal (eVar 2)) (aNil)))) (hVal (eOp gIxA (hSlot 3) (hVal (eTup (aCons (hVal (eOp gIxA (hVal (eVar 2)) (hVal (eC (.int 0))))) (aNil)))))))) (sNx)))
def dTJ : Den Fl := (sIf (bOf (eOp gGe (hVal (eOp gIxA (hVal (eVar 2)) (hVal (eC (.int 0))))) (hVal (eC (.int 0))))) (sPut 3 (hVal (eTup (aCons (hVal (eOp gIxA (hVal (eVar 2)) (hVal (eC (.int 0))))) (aNil)))) (eOp gAdd (hVal (eOp gIxA (hSlot 3) (hVal (eTup (aCons (hVal (eOp gIxA (hVal (eVar 2)) (hVal (eC (.int 0))))) (aNil)))))) (hVal (ePopN 3 (aCons (hVal (eTup (aCons (hVal (eOp gIxA (hVal (eVar 2)) (hVal (eC (.int 1))))) (aNil)))) (aNil)))))) (sIf (bOf (eOp gLt (hVal (eOp gIxA (hVal (eVar 2)) (hVal (eC (.int 1))))) (hVal (eC (.int 0))))) (sPut 3 (hVal (eTup (aCons (hVal (eUn gNeg (hVal (eC (.int 1))))) (aNil)))) (eLst (aNil))) (sNx)))
def dTC : Den Bool := (bOf (eOp gEq (hVal (eVar 1)) (hVal (eC (.str "join")))))
def dThN : Den Fl := sSeq (sSet 3 (eC (.dit []))) (sSeq dTF (sSeq dTN (sFrz 3 (sRet (eVar 3)))))
theorem there_den : d__law_there = sSeq (sSet 3 (eC (.dit []))) (sSeq dTF (sSeq (sIf dTC dTJ dTN) (sFrz 3 (sRet (eVar 3))))) := rfl
def getM {α : Type} (r : R α) (m : MS) : MS := match r with | .ok _ m => m | .bad => m
theorem seq_ok {f g : Den Fl} {m m1 : MS} (e : f m = .ok .nx m1) : sSeq f g m = g m1 := by
  show Den.bind f _ m = _
  unfold Den.bind
  rw [e]
theorem if_no {c : Den Bool} {f g : Den Fl} {m m1 : MS} (e : c m = .ok false m1) : sIf c f g m = g m1 := by
  show Den.bind c _ m = _
  unfold Den.bind
  rw [e]
  rfl
theorem seq_congr {f f' g : Den Fl} {m : MS} (e : f m = f' m) : sSeq f g m = sSeq f' g m := by
  show Den.bind f _ m = Den.bind f' _ m
  unfold Den.bind
  rw [e]
abbrev mT (f : Fr) (t x : D) (st : Sto) : MS := ⟨[some (frD f), some t, some x, some (.dit []), none, none, none], st⟩
theorem tf_ok (f : Fr) (hf : f ∈ FR) (t x : D) (st : Sto) : dTF (mT f t x st) = .ok .nx (getM (dTF (mT f t x st)) (mT f t x st)) ∧ (getM (dTF (mT f t x st)) (mT f t x st)).sl[1]? = some (some t) := by
  revert hf
  revert f
  refine List.forall_mem_cons.mpr ⟨?_, ?_⟩
  · exact ⟨by kernel_rfl, by kernel_rfl⟩
  refine List.forall_mem_cons.mpr ⟨?_, ?_⟩
  · exact ⟨by kernel_rfl, by kernel_rfl⟩
  refine List.forall_mem_cons.mpr ⟨?_, ?_⟩
  · exact ⟨by kernel_rfl, by kernel_rfl⟩
  refine List.forall_mem_cons.mpr ⟨?_, ?_⟩
  · exact ⟨by kernel_rfl, by kernel_rfl⟩
  refine List.forall_mem_cons.mpr ⟨?_, ?_⟩
  · exact ⟨by kernel_rfl, by kernel_rfl⟩
  refine List.forall_mem_cons.mpr ⟨?_, ?_⟩
  · exact ⟨by kernel_rfl, by kernel_rfl⟩
  refine List.forall_mem_cons.mpr ⟨?_, ?_⟩
  · exact ⟨by kernel_rfl, by kernel_rfl⟩
  refine List.forall_mem_cons.mpr ⟨?_, ?_⟩
  · exact ⟨by kernel_rfl, by kernel_rfl⟩
  refine List.forall_mem_cons.mpr ⟨?_, ?_⟩
  · exact ⟨by kernel_rfl, by kernel_rfl⟩
  refine List.forall_mem_cons.mpr ⟨?_, ?_⟩
  · exact ⟨by kernel_rfl, by kernel_rfl⟩
  refine List.forall_mem_cons.mpr ⟨?_, ?_⟩
  · exact ⟨by kernel_rfl, by kernel_rfl⟩
  refine List.forall_mem_cons.mpr ⟨?_, ?_⟩
  · exact ⟨by kernel_rfl, by kernel_rfl⟩
  refine List.forall_mem_cons.mpr ⟨?_, ?_⟩
  · exact ⟨by kernel_rfl, by kernel_rfl⟩
  exact fun f hf => by cases hf
theorem tc_no {t : Str} (ht : gEq (.str t) (.str "join") = some (.bl false)) {m : MS} (h1 : m.sl[1]? = some (some (.str t))) : dTC m = .ok false m := by
  obtain ⟨b, m', e, q⟩ : W dTC m fun b m' => b = false ∧ m' = m := w_bof (w_op (w_hval (w_var h1 (w_hval (w_c ⟨_, _, _, rfl, rfl, ht, ⟨_, rfl, rfl, rfl⟩⟩)))))
  rw [e, q.1, q.2]
theorem there_no {f : Fr} (hf : f ∈ FR) {t : Str} (ht : gEq (.str t) (.str "join") = some (.bl false)) {x : D} {st : Sto} : fn__law_there [frD f, .str t, x] st = runFn 7 dThN [frD f, .str t, x] st := by
  obtain ⟨e, h1⟩ := tf_ok f hf (.str t) x st
  have hd : d__law_there ⟨[some (frD f), some (.str t), some x, none, none, none, none], st⟩ = dThN ⟨[some (frD f), some (.str t), some x, none, none, none, none], st⟩ := by
    rw [there_den]
    unfold dThN
    have e0 : sSet 3 (eC (.dit [])) ⟨[some (frD f), some (.str t), some x, none, none, none, none], st⟩ = .ok .nx (mT f (.str t) x st) := rfl
    rw [seq_ok e0, seq_ok e0, seq_ok e, seq_ok e]
    exact seq_congr (if_no (tc_no ht h1))
  show (match d__law_there ⟨[some (frD f), some (.str t), some x, none, none, none, none], st⟩ with | .ok (.rt d) m => some (d, m.st) | .ok .nx m => some (.non, m.st) | _ => none) = _
  rw [hd]
  rfl
theorem thn0 (t : D) (st : Sto) : (cs []).map (fun c => runFn 7 dThN [frD [], t, qD c] st) = (cs []).map (fun c => some (thD (thN [] c), st)) := by kernel_rfl
theorem thj0 (st : Sto) : (jc []).map (fun c => fn__law_there [frD [], .str "join", qD c] st) = (jc []).map (fun c => some (thD (thJ [] c), st)) := by kernel_rfl
theorem thn1 (t : D) (st : Sto) : (cs [0]).map (fun c => runFn 7 dThN [frD [0], t, qD c] st) = (cs [0]).map (fun c => some (thD (thN [0] c), st)) := by kernel_rfl
theorem thj1 (st : Sto) : (jc [0]).map (fun c => fn__law_there [frD [0], .str "join", qD c] st) = (jc [0]).map (fun c => some (thD (thJ [0] c), st)) := by kernel_rfl
theorem thn2 (t : D) (st : Sto) : (cs [1]).map (fun c => runFn 7 dThN [frD [1], t, qD c] st) = (cs [1]).map (fun c => some (thD (thN [1] c), st)) := by kernel_rfl
theorem thj2 (st : Sto) : (jc [1]).map (fun c => fn__law_there [frD [1], .str "join", qD c] st) = (jc [1]).map (fun c => some (thD (thJ [1] c), st)) := by kernel_rfl
theorem thn3 (t : D) (st : Sto) : (cs [2]).map (fun c => runFn 7 dThN [frD [2], t, qD c] st) = (cs [2]).map (fun c => some (thD (thN [2] c), st)) := by kernel_rfl
theorem thj3 (st : Sto) : (jc [2]).map (fun c => fn__law_there [frD [2], .str "join", qD c] st) = (jc [2]).map (fun c => some (thD (thJ [2] c), st)) := by kernel_rfl
theorem thn4 (t : D) (st : Sto) : (cs [0, 0]).map (fun c => runFn 7 dThN [frD [0, 0], t, qD c] st) = (cs [0, 0]).map (fun c => some (thD (thN [0, 0] c), st)) := by kernel_rfl
theorem thj4 (st : Sto) : (jc [0, 0]).map (fun c => fn__law_there [frD [0, 0], .str "join", qD c] st) = (jc [0, 0]).map (fun c => some (thD (thJ [0, 0] c), st)) := by kernel_rfl
theorem thn5 (t : D) (st : Sto) : (cs [0, 1]).map (fun c => runFn 7 dThN [frD [0, 1], t, qD c] st) = (cs [0, 1]).map (fun c => some (thD (thN [0, 1] c), st)) := by kernel_rfl
theorem thj5 (st : Sto) : (jc [0, 1]).map (fun c => fn__law_there [frD [0, 1], .str "join", qD c] st) = (jc [0, 1]).map (fun c => some (thD (thJ [0, 1] c), st)) := by kernel_rfl
theorem thn6 (t : D) (st : Sto) : (cs [0, 2]).map (fun c => runFn 7 dThN [frD [0, 2], t, qD c] st) = (cs [0, 2]).map (fun c => some (thD (thN [0, 2] c), st)) := by kernel_rfl
theorem thj6 (st : Sto) : (jc [0, 2]).map (fun c => fn__law_there [frD [0, 2], .str "join", qD c] st) = (jc [0, 2]).map (fun c => some (thD (thJ [0, 2] c), st)) := by kernel_rfl
theorem thn7 (t : D) (st : Sto) : (cs [1, 0]).map (fun c => runFn 7 dThN [frD [1, 0], t, qD c] st) = (cs [1, 0]).map (fun c => some (thD (thN [1, 0] c), st)) := by kernel_rfl
theorem thj7 (st : Sto) : (jc [1, 0]).map (fun c => fn__law_there [frD [1, 0], .str "join", qD c] st) = (jc [1, 0]).map (fun c => some (thD (thJ [1, 0] c), st)) := by kernel_rfl
theorem thn8 (t : D) (st : Sto) : (cs [1, 1]).map (fun c => runFn 7 dThN [frD [1, 1], t, qD c] st) = (cs [1, 1]).map (fun c => some (thD (thN [1, 1] c), st)) := by kernel_rfl
theorem thj8 (st : Sto) : (jc [1, 1]).map (fun c => fn__law_there [frD [1, 1], .str "join", qD c] st) = (jc [1, 1]).map (fun c => some (thD (thJ [1, 1] c), st)) := by kernel_rfl
theorem thn9 (t : D) (st : Sto) : (cs [1, 2]).map (fun c => runFn 7 dThN [frD [1, 2], t, qD c] st) = (cs [1, 2]).map (fun c => some (thD (thN [1, 2] c), st)) := by kernel_rfl
theorem thj9 (st : Sto) : (jc [1, 2]).map (fun c => fn__law_there [frD [1, 2], .str "join", qD c] st) = (jc [1, 2]).map (fun c => some (thD (thJ [1, 2] c), st)) := by kernel_rfl
theorem thn10 (t : D) (st : Sto) : (cs [2, 0]).map (fun c => runFn 7 dThN [frD [2, 0], t, qD c] st) = (cs [2, 0]).map (fun c => some (thD (thN [2, 0] c), st)) := by kernel_rfl
theorem thj10 (st : Sto) : (jc [2, 0]).map (fun c => fn__law_there [frD [2, 0], .str "join", qD c] st) = (jc [2, 0]).map (fun c => some (thD (thJ [2, 0] c), st)) := by kernel_rfl
theorem thn11 (t : D) (st : Sto) : (cs [2, 1]).map (fun c => runFn 7 dThN [frD [2, 1], t, qD c] st) = (cs [2, 1]).map (fun c => some (thD (thN [2, 1] c), st)) := by kernel_rfl
theorem thj11 (st : Sto) : (jc [2, 1]).map (fun c => fn__law_there [frD [2, 1], .str "join", qD c] st) = (jc [2, 1]).map (fun c => some (thD (thJ [2, 1] c), st)) := by kernel_rfl
theorem thn12 (t : D) (st : Sto) : (cs [2, 2]).map (fun c => runFn 7 dThN [frD [2, 2], t, qD c] st) = (cs [2, 2]).map (fun c => some (thD (thN [2, 2] c), st)) := by kernel_rfl
theorem thj12 (st : Sto) : (jc [2, 2]).map (fun c => fn__law_there [frD [2, 2], .str "join", qD c] st) = (jc [2, 2]).map (fun c => some (thD (thJ [2, 2] c), st)) := by kernel_rfl
theorem map_pt {α β : Type} {l : List α} {f g : α → β} (h : l.map f = l.map g) : ∀ a ∈ l, f a = g a := List.map_eq_map_iff.mp h
theorem thn (t : D) (st : Sto) : ∀ f ∈ FR, ∀ c ∈ cs f, runFn 7 dThN [frD f, t, qD c] st = some (thD (thN f c), st) := (List.forall_mem_cons.mpr ⟨map_pt (thn0 t st), (List.forall_mem_cons.mpr ⟨map_pt (thn1 t st), (List.forall_mem_cons.mpr ⟨map_pt (thn2 t st), (List.forall_mem_cons.mpr ⟨map_pt (thn3 t st), (List.forall_mem_cons.mpr ⟨map_pt (thn4 t st), (List.forall_mem_cons.mpr ⟨map_pt (thn5 t st), (List.forall_mem_cons.mpr ⟨map_pt (thn6 t st), (List.forall_mem_cons.mpr ⟨map_pt (thn7 t st), (List.forall_mem_cons.mpr ⟨map_pt (thn8 t st), (List.forall_mem_cons.mpr ⟨map_pt (thn9 t st), (List.forall_mem_cons.mpr ⟨map_pt (thn10 t st), (List.forall_mem_cons.mpr ⟨map_pt (thn11 t st), (List.forall_mem_cons.mpr ⟨map_pt (thn12 t st), (fun _ h => by cases h)⟩)⟩)⟩)⟩)⟩)⟩)⟩)⟩)⟩)⟩)⟩)⟩)⟩)
theorem thj (st : Sto) : ∀ f ∈ FR, ∀ c ∈ jc f, fn__law_there [frD f, .str "join", qD c] st = some (thD (thJ f c), st) := (List.forall_mem_cons.mpr ⟨map_pt (thj0 st), (List.forall_mem_cons.mpr ⟨map_pt (thj1 st), (List.forall_mem_cons.mpr ⟨map_pt (thj2 st), (List.forall_mem_cons.mpr ⟨map_pt (thj3 st), (List.forall_mem_cons.mpr ⟨map_pt (thj4 st), (List.forall_mem_cons.mpr ⟨map_pt (thj5 st), (List.forall_mem_cons.mpr ⟨map_pt (thj6 st), (List.forall_mem_cons.mpr ⟨map_pt (thj7 st), (List.forall_mem_cons.mpr ⟨map_pt (thj8 st), (List.forall_mem_cons.mpr ⟨map_pt (thj9 st), (List.forall_mem_cons.mpr ⟨map_pt (thj10 st), (List.forall_mem_cons.mpr ⟨map_pt (thj11 st), (List.forall_mem_cons.mpr ⟨map_pt (thj12 st), (fun _ h => by cases h)⟩)⟩)⟩)⟩)⟩)⟩)⟩)⟩)⟩)⟩)⟩)⟩)⟩)
theorem fl0 (st : Sto) : FR.map (fun f => fn__law_fills [frD f, thD T0] st) = FR.map (fun f => some (.lst ((fl T0 f).map rowD), st)) := by kernel_rfl
theorem fl1 (st : Sto) : FR.map (fun f => fn__law_fills [frD f, thD T1] st) = FR.map (fun f => some (.lst ((fl T1 f).map rowD), st)) := by kernel_rfl
theorem fl2 (st : Sto) : FR.map (fun f => fn__law_fills [frD f, thD T2] st) = FR.map (fun f => some (.lst ((fl T2 f).map rowD), st)) := by kernel_rfl
theorem fl3 (st : Sto) : FR.map (fun f => fn__law_fills [frD f, thD T3] st) = FR.map (fun f => some (.lst ((fl T3 f).map rowD), st)) := by kernel_rfl
theorem fl4 (st : Sto) : FR.map (fun f => fn__law_fills [frD f, thD T4] st) = FR.map (fun f => some (.lst ((fl T4 f).map rowD), st)) := by kernel_rfl
theorem fl5 (st : Sto) : FR.map (fun f => fn__law_fills [frD f, thD T5] st) = FR.map (fun f => some (.lst ((fl T5 f).map rowD), st)) := by kernel_rfl
theorem fl6 (st : Sto) : FR.map (fun f => fn__law_fills [frD f, thD T6] st) = FR.map (fun f => some (.lst ((fl T6 f).map rowD), st)) := by kernel_rfl
theorem fl7 (st : Sto) : FR.map (fun f => fn__law_fills [frD f, thD T7] st) = FR.map (fun f => some (.lst ((fl T7 f).map rowD), st)) := by kernel_rfl
theorem fl8 (st : Sto) : FR.map (fun f => fn__law_fills [frD f, thD T8] st) = FR.map (fun f => some (.lst ((fl T8 f).map rowD), st)) := by kernel_rfl
theorem fl9 (st : Sto) : FR.map (fun f => fn__law_fills [frD f, thD T9] st) = FR.map (fun f => some (.lst ((fl T9 f).map rowD), st)) := by kernel_rfl
theorem fl10 (st : Sto) : FR.map (fun f => fn__law_fills [frD f, thD T10] st) = FR.map (fun f => some (.lst ((fl T10 f).map rowD), st)) := by kernel_rfl
theorem fl11 (st : Sto) : FR.map (fun f => fn__law_fills [frD f, thD T11] st) = FR.map (fun f => some (.lst ((fl T11 f).map rowD), st)) := by kernel_rfl
theorem fl12 (st : Sto) : FR.map (fun f => fn__law_fills [frD f, thD T12] st) = FR.map (fun f => some (.lst ((fl T12 f).map rowD), st)) := by kernel_rfl
theorem fl13 (st : Sto) : FR.map (fun f => fn__law_fills [frD f, thD T13] st) = FR.map (fun f => some (.lst ((fl T13 f).map rowD), st)) := by kernel_rfl
theorem fl14 (st : Sto) : FR.map (fun f => fn__law_fills [frD f, thD T14] st) = FR.map (fun f => some (.lst ((fl T14 f).map rowD), st)) := by kernel_rfl
theorem fl15 (st : Sto) : FR.map (fun f => fn__law_fills [frD f, thD T15] st) = FR.map (fun f => some (.lst ((fl T15 f).map rowD), st)) := by kernel_rfl
theorem fl16 (st : Sto) : FR.map (fun f => fn__law_fills [frD f, thD T16] st) = FR.map (fun f => some (.lst ((fl T16 f).map rowD), st)) := by kernel_rfl
theorem fl17 (st : Sto) : FR.map (fun f => fn__law_fills [frD f, thD T17] st) = FR.map (fun f => some (.lst ((fl T17 f).map rowD), st)) := by kernel_rfl
theorem fl18 (st : Sto) : FR.map (fun f => fn__law_fills [frD f, thD T18] st) = FR.map (fun f => some (.lst ((fl T18 f).map rowD), st)) := by kernel_rfl
theorem fl19 (st : Sto) : FR.map (fun f => fn__law_fills [frD f, thD T19] st) = FR.map (fun f => some (.lst ((fl T19 f).map rowD), st)) := by kernel_rfl
theorem fl20 (st : Sto) : FR.map (fun f => fn__law_fills [frD f, thD T20] st) = FR.map (fun f => some (.lst ((fl T20 f).map rowD), st)) := by kernel_rfl
theorem fl21 (st : Sto) : FR.map (fun f => fn__law_fills [frD f, thD T21] st) = FR.map (fun f => some (.lst ((fl T21 f).map rowD), st)) := by kernel_rfl
theorem fl22 (st : Sto) : FR.map (fun f => fn__law_fills [frD f, thD T22] st) = FR.map (fun f => some (.lst ((fl T22 f).map rowD), st)) := by kernel_rfl
theorem fl23 (st : Sto) : FR.map (fun f => fn__law_fills [frD f, thD T23] st) = FR.map (fun f => some (.lst ((fl T23 f).map rowD), st)) := by kernel_rfl
theorem fl24 (st : Sto) : FR.map (fun f => fn__law_fills [frD f, thD T24] st) = FR.map (fun f => some (.lst ((fl T24 f).map rowD), st)) := by kernel_rfl
theorem fl25 (st : Sto) : FR.map (fun f => fn__law_fills [frD f, thD T25] st) = FR.map (fun f => some (.lst ((fl T25 f).map rowD), st)) := by kernel_rfl
theorem fl26 (st : Sto) : FR.map (fun f => fn__law_fills [frD f, thD T26] st) = FR.map (fun f => some (.lst ((fl T26 f).map rowD), st)) := by kernel_rfl
theorem fl27 (st : Sto) : FR.map (fun f => fn__law_fills [frD f, thD T27] st) = FR.map (fun f => some (.lst ((fl T27 f).map rowD), st)) := by kernel_rfl
theorem fl28 (st : Sto) : FR.map (fun f => fn__law_fills [frD f, thD T28] st) = FR.map (fun f => some (.lst ((fl T28 f).map rowD), st)) := by kernel_rfl
theorem fl29 (st : Sto) : FR.map (fun f => fn__law_fills [frD f, thD T29] st) = FR.map (fun f => some (.lst ((fl T29 f).map rowD), st)) := by kernel_rfl
theorem fl30 (st : Sto) : FR.map (fun f => fn__law_fills [frD f, thD T30] st) = FR.map (fun f => some (.lst ((fl T30 f).map rowD), st)) := by kernel_rfl
theorem fl31 (st : Sto) : FR.map (fun f => fn__law_fills [frD f, thD T31] st) = FR.map (fun f => some (.lst ((fl T31 f).map rowD), st)) := by kernel_rfl
theorem fl32 (st : Sto) : FR.map (fun f => fn__law_fills [frD f, thD T32] st) = FR.map (fun f => some (.lst ((fl T32 f).map rowD), st)) := by kernel_rfl
theorem fl33 (st : Sto) : FR.map (fun f => fn__law_fills [frD f, thD T33] st) = FR.map (fun f => some (.lst ((fl T33 f).map rowD), st)) := by kernel_rfl
theorem fl34 (st : Sto) : FR.map (fun f => fn__law_fills [frD f, thD T34] st) = FR.map (fun f => some (.lst ((fl T34 f).map rowD), st)) := by kernel_rfl
theorem fl35 (st : Sto) : FR.map (fun f => fn__law_fills [frD f, thD T35] st) = FR.map (fun f => some (.lst ((fl T35 f).map rowD), st)) := by kernel_rfl
theorem fl36 (st : Sto) : FR.map (fun f => fn__law_fills [frD f, thD T36] st) = FR.map (fun f => some (.lst ((fl T36 f).map rowD), st)) := by kernel_rfl
theorem fl37 (st : Sto) : FR.map (fun f => fn__law_fills [frD f, thD T37] st) = FR.map (fun f => some (.lst ((fl T37 f).map rowD), st)) := by kernel_rfl
theorem fl38 (st : Sto) : FR.map (fun f => fn__law_fills [frD f, thD T38] st) = FR.map (fun f => some (.lst ((fl T38 f).map rowD), st)) := by kernel_rfl
theorem fl39 (st : Sto) : FR.map (fun f => fn__law_fills [frD f, thD T39] st) = FR.map (fun f => some (.lst ((fl T39 f).map rowD), st)) := by kernel_rfl
theorem fl40 (st : Sto) : FR.map (fun f => fn__law_fills [frD f, thD T40] st) = FR.map (fun f => some (.lst ((fl T40 f).map rowD), st)) := by kernel_rfl
theorem fl41 (st : Sto) : FR.map (fun f => fn__law_fills [frD f, thD T41] st) = FR.map (fun f => some (.lst ((fl T41 f).map rowD), st)) := by kernel_rfl
theorem fl42 (st : Sto) : FR.map (fun f => fn__law_fills [frD f, thD T42] st) = FR.map (fun f => some (.lst ((fl T42 f).map rowD), st)) := by kernel_rfl
theorem fl43 (st : Sto) : FR.map (fun f => fn__law_fills [frD f, thD T43] st) = FR.map (fun f => some (.lst ((fl T43 f).map rowD), st)) := by kernel_rfl
theorem fl44 (st : Sto) : FR.map (fun f => fn__law_fills [frD f, thD T44] st) = FR.map (fun f => some (.lst ((fl T44 f).map rowD), st)) := by kernel_rfl
theorem fl45 (st : Sto) : FR.map (fun f => fn__law_fills [frD f, thD T45] st) = FR.map (fun f => some (.lst ((fl T45 f).map rowD), st)) := by kernel_rfl
theorem fl46 (st : Sto) : FR.map (fun f => fn__law_fills [frD f, thD T46] st) = FR.map (fun f => some (.lst ((fl T46 f).map rowD), st)) := by kernel_rfl
theorem fl47 (st : Sto) : FR.map (fun f => fn__law_fills [frD f, thD T47] st) = FR.map (fun f => some (.lst ((fl T47 f).map rowD), st)) := by kernel_rfl
theorem fl48 (st : Sto) : FR.map (fun f => fn__law_fills [frD f, thD T48] st) = FR.map (fun f => some (.lst ((fl T48 f).map rowD), st)) := by kernel_rfl
theorem fl49 (st : Sto) : FR.map (fun f => fn__law_fills [frD f, thD T49] st) = FR.map (fun f => some (.lst ((fl T49 f).map rowD), st)) := by kernel_rfl
theorem fl50 (st : Sto) : FR.map (fun f => fn__law_fills [frD f, thD T50] st) = FR.map (fun f => some (.lst ((fl T50 f).map rowD), st)) := by kernel_rfl
theorem fl51 (st : Sto) : FR.map (fun f => fn__law_fills [frD f, thD T51] st) = FR.map (fun f => some (.lst ((fl T51 f).map rowD), st)) := by kernel_rfl
theorem fl52 (st : Sto) : FR.map (fun f => fn__law_fills [frD f, thD T52] st) = FR.map (fun f => some (.lst ((fl T52 f).map rowD), st)) := by kernel_rfl
theorem fl53 (st : Sto) : FR.map (fun f => fn__law_fills [frD f, thD T53] st) = FR.map (fun f => some (.lst ((fl T53 f).map rowD), st)) := by kernel_rfl
theorem fl54 (st : Sto) : FR.map (fun f => fn__law_fills [frD f, thD T54] st) = FR.map (fun f => some (.lst ((fl T54 f).map rowD), st)) := by kernel_rfl
theorem fl55 (st : Sto) : FR.map (fun f => fn__law_fills [frD f, thD T55] st) = FR.map (fun f => some (.lst ((fl T55 f).map rowD), st)) := by kernel_rfl
theorem fl56 (st : Sto) : FR.map (fun f => fn__law_fills [frD f, thD T56] st) = FR.map (fun f => some (.lst ((fl T56 f).map rowD), st)) := by kernel_rfl
theorem fl57 (st : Sto) : FR.map (fun f => fn__law_fills [frD f, thD T57] st) = FR.map (fun f => some (.lst ((fl T57 f).map rowD), st)) := by kernel_rfl
theorem fl58 (st : Sto) : FR.map (fun f => fn__law_fills [frD f, thD T58] st) = FR.map (fun f => some (.lst ((fl T58 f).map rowD), st)) := by kernel_rfl
theorem fl59 (st : Sto) : FR.map (fun f => fn__law_fills [frD f, thD T59] st) = FR.map (fun f => some (.lst ((fl T59 f).map rowD), st)) := by kernel_rfl
theorem fl60 (st : Sto) : FR.map (fun f => fn__law_fills [frD f, thD T60] st) = FR.map (fun f => some (.lst ((fl T60 f).map rowD), st)) := by kernel_rfl
theorem fl61 (st : Sto) : FR.map (fun f => fn__law_fills [frD f, thD T61] st) = FR.map (fun f => some (.lst ((fl T61 f).map rowD), st)) := by kernel_rfl
theorem fl62 (st : Sto) : FR.map (fun f => fn__law_fills [frD f, thD T62] st) = FR.map (fun f => some (.lst ((fl T62 f).map rowD), st)) := by kernel_rfl
theorem fl63 (st : Sto) : FR.map (fun f => fn__law_fills [frD f, thD T63] st) = FR.map (fun f => some (.lst ((fl T63 f).map rowD), st)) := by kernel_rfl
theorem fl64 (st : Sto) : FR.map (fun f => fn__law_fills [frD f, thD T64] st) = FR.map (fun f => some (.lst ((fl T64 f).map rowD), st)) := by kernel_rfl
theorem fills_ok (st : Sto) : ∀ t ∈ AT, ∀ f ∈ FR, fn__law_fills [frD f, thD t] st = some (.lst ((fl t f).map rowD), st) := (List.forall_mem_cons.mpr ⟨map_pt (fl0 st), (List.forall_mem_cons.mpr ⟨map_pt (fl1 st), (List.forall_mem_cons.mpr ⟨map_pt (fl2 st), (List.forall_mem_cons.mpr ⟨map_pt (fl3 st), (List.forall_mem_cons.mpr ⟨map_pt (fl4 st), (List.forall_mem_cons.mpr ⟨map_pt (fl5 st), (List.forall_mem_cons.mpr ⟨map_pt (fl6 st), (List.forall_mem_cons.mpr ⟨map_pt (fl7 st), (List.forall_mem_cons.mpr ⟨map_pt (fl8 st), (List.forall_mem_cons.mpr ⟨map_pt (fl9 st), (List.forall_mem_cons.mpr ⟨map_pt (fl10 st), (List.forall_mem_cons.mpr ⟨map_pt (fl11 st), (List.forall_mem_cons.mpr ⟨map_pt (fl12 st), (List.forall_mem_cons.mpr ⟨map_pt (fl13 st), (List.forall_mem_cons.mpr ⟨map_pt (fl14 st), (List.forall_mem_cons.mpr ⟨map_pt (fl15 st), (List.forall_mem_cons.mpr ⟨map_pt (fl16 st), (List.forall_mem_cons.mpr ⟨map_pt (fl17 st), (List.forall_mem_cons.mpr ⟨map_pt (fl18 st), (List.forall_mem_cons.mpr ⟨map_pt (fl19 st), (List.forall_mem_cons.mpr ⟨map_pt (fl20 st), (List.forall_mem_cons.mpr ⟨map_pt (fl21 st), (List.forall_mem_cons.mpr ⟨map_pt (fl22 st), (List.forall_mem_cons.mpr ⟨map_pt (fl23 st), (List.forall_mem_cons.mpr ⟨map_pt (fl24 st), (List.forall_mem_cons.mpr ⟨map_pt (fl25 st), (List.forall_mem_cons.mpr ⟨map_pt (fl26 st), (List.forall_mem_cons.mpr ⟨map_pt (fl27 st), (List.forall_mem_cons.mpr ⟨map_pt (fl28 st), (List.forall_mem_cons.mpr ⟨map_pt (fl29 st), (List.forall_mem_cons.mpr ⟨map_pt (fl30 st), (List.forall_mem_cons.mpr ⟨map_pt (fl31 st), (List.forall_mem_cons.mpr ⟨map_pt (fl32 st), (List.forall_mem_cons.mpr ⟨map_pt (fl33 st), (List.forall_mem_cons.mpr ⟨map_pt (fl34 st), (List.forall_mem_cons.mpr ⟨map_pt (fl35 st), (List.forall_mem_cons.mpr ⟨map_pt (fl36 st), (List.forall_mem_cons.mpr ⟨map_pt (fl37 st), (List.forall_mem_cons.mpr ⟨map_pt (fl38 st), (List.forall_mem_cons.mpr ⟨map_pt (fl39 st), (List.forall_mem_cons.mpr ⟨map_pt (fl40 st), (List.forall_mem_cons.mpr ⟨map_pt (fl41 st), (List.forall_mem_cons.mpr ⟨map_pt (fl42 st), (List.forall_mem_cons.mpr ⟨map_pt (fl43 st), (List.forall_mem_cons.mpr ⟨map_pt (fl44 st), (List.forall_mem_cons.mpr ⟨map_pt (fl45 st), (List.forall_mem_cons.mpr ⟨map_pt (fl46 st), (List.forall_mem_cons.mpr ⟨map_pt (fl47 st), (List.forall_mem_cons.mpr ⟨map_pt (fl48 st), (List.forall_mem_cons.mpr ⟨map_pt (fl49 st), (List.forall_mem_cons.mpr ⟨map_pt (fl50 st), (List.forall_mem_cons.mpr ⟨map_pt (fl51 st), (List.forall_mem_cons.mpr ⟨map_pt (fl52 st), (List.forall_mem_cons.mpr ⟨map_pt (fl53 st), (List.forall_mem_cons.mpr ⟨map_pt (fl54 st), (List.forall_mem_cons.mpr ⟨map_pt (fl55 st), (List.forall_mem_cons.mpr ⟨map_pt (fl56 st), (List.forall_mem_cons.mpr ⟨map_pt (fl57 st), (List.forall_mem_cons.mpr ⟨map_pt (fl58 st), (List.forall_mem_cons.mpr ⟨map_pt (fl59 st), (List.forall_mem_cons.mpr ⟨map_pt (fl60 st), (List.forall_mem_cons.mpr ⟨map_pt (fl61 st), (List.forall_mem_cons.mpr ⟨map_pt (fl62 st), (List.forall_mem_cons.mpr ⟨map_pt (fl63 st), (List.forall_mem_cons.mpr ⟨map_pt (fl64 st), (fun _ h => by cases h)⟩)⟩)⟩)⟩)⟩)⟩)⟩)⟩)⟩)⟩)⟩)⟩)⟩)⟩)⟩)⟩)⟩)⟩)⟩)⟩)⟩)⟩)⟩)⟩)⟩)⟩)⟩)⟩)⟩)⟩)⟩)⟩)⟩)⟩)⟩)⟩)⟩)⟩)⟩)⟩)⟩)⟩)⟩)⟩)⟩)⟩)⟩)⟩)⟩)⟩)⟩)⟩)⟩)⟩)⟩)⟩)⟩)⟩)⟩)⟩)⟩)⟩)⟩)⟩)⟩)
theorem keys_ok0 : AT.map (fun t => gSorted [thD t]) = AT.map (fun t => some (.lst ((srtI (t.map (·.1))).map hD))) := by kernel_rfl
theorem keys_ok : ∀ t ∈ AT, gSorted [thD t] = some (.lst ((srtI (t.map (·.1))).map hD)) := map_pt keys_ok0
theorem look_ok0 : AT.map (fun t => t.map fun q => gIxA (thD t) (hD q.1)) = AT.map (fun t => t.map fun q => some (.lst (q.2.map qD))) := by kernel_rfl
theorem look_ok : ∀ t ∈ AT, ∀ q ∈ t, gIxA (thD t) (hD q.1) = some (.lst (q.2.map qD)) := fun t ht => map_pt (map_pt look_ok0 t ht)
end Lk10

namespace Lk10
open PySem PySem.Spec L2 MI
theorem fs_take {st : Sto} {n N : Nat} {many : Int} {P : D → Sto → Prop} (h : HB st n N) (hN : N ≤ 1000000) (h0 : 0 < many) (h1 : many ≤ 1000000) (k : ∀ r st', 0 ≤ r → r < many → HB st' n (N + 1) → P (.int r) st') : FS fn__law_take [.obj n, .int many] st P := by
  have p1 : (2 : Nat) ^ 40 = 1099511627776 := by decide
  have p2 : (2 : Int) ^ 40 = 1099511627776 := by decide
  obtain ⟨r, st', e, a, b, c⟩ := takeS h (by omega) h0 (by omega)
  exact ⟨_, _, e, k r st' a b c⟩
theorem fs_pickL {st : Sto} {n N : Nat} {ds : List D} {P : D → Sto → Prop} (h : HB st n N) (hN : N ≤ 1000000) (h0 : ds ≠ []) (h1 : ds.length ≤ 1000) (k : ∀ d st', d ∈ ds → HB st' n (N + 1) → P d st') : FS fn__law_pick [.obj n, .lst ds] st P := by
  have p1 : (2 : Nat) ^ 40 = 1099511627776 := by decide
  obtain ⟨r, st', e, a, b⟩ := pickL h (by omega) (List.length_pos_iff.mpr h0) h1
  exact ⟨_, _, e, k r st' a b⟩
theorem fs_pickT {st : Sto} {n N : Nat} {ds : List D} {P : D → Sto → Prop} (h : HB st n N) (hN : N ≤ 1000000) (h0 : ds ≠ []) (h1 : ds.length ≤ 1000) (k : ∀ d st', d ∈ ds → HB st' n (N + 1) → P d st') : FS fn__law_pick [.obj n, .tup ds] st P := by
  have p1 : (2 : Nat) ^ 40 = 1099511627776 := by decide
  obtain ⟨r, st', e, a, b⟩ := pickT h (by omega) (List.length_pos_iff.mpr h0) h1
  exact ⟨_, _, e, k r st' a b⟩
/-! ### words -/
abbrev LT : Str := "abcdefghijklmnopqrstuvwxyz"
theorem letter0 : (List.range 26).map (fun (k : Nat) => gIxA (.str LT) (.int (k : Nat))) = (List.range 26).map (fun k => some (.str (SX.S [97 + k]))) := by kernel_rfl
theorem letter {i : Int} (h0 : 0 ≤ i) (h1 : i < 26) : gIxA (.str LT) (.int i) = some (.str (SX.S [97 + i.toNat])) := by
  have := map_pt letter0 i.toNat (List.mem_range.mpr (by omega))
  rwa [Int.toNat_of_nonneg h0] at this
theorem lt_len : gLen [.str LT] = some (.int 26) := by kernel_rfl
theorem fs_pickS {st : Sto} {n N : Nat} {P : D → Sto → Prop} (h : HB st n N) (hN : N ≤ 1000000) (k : ∀ (c : Nat) st', 97 ≤ c → c ≤ 122 → HB st' n (N + 1) → P (.str (SX.S [c])) st') : FS fn__law_pick [.obj n, .str LT] st P := by
  refine fs_run ?_
  unfold d__law_pick
  repeat (first | refine w_seq ?_ | refine w_set ?_ | refine w_rt ?_ | refine w_drop ?_ | refine w_frz ?_ | refine w_multi ?_ | refine w_mcons ?_ | refine w_mnil ?_ | refine w_asg ?_ | refine w_hval ?_ | refine w_var rfl ?_ | refine w_c ?_ | refine w_hslot rfl ?_ | refine w_acons ?_ | refine w_anil ?_ | refine w_op ?_ | refine w_un ?_ | refine w_fn ?_ | refine w_tup ?_ | refine w_lst ?_ | refine w_avals ?_ | refine w_alooks ?_ | refine w_callK ?_ | refine w_cut ?_ | refine w_pint ?_ | refine w_pno ?_ | refine w_bof ?_ | refine w_nx ?_ | refine w_ret ?_ | refine xT rfl (fitk (by decide)) ?_ | refine x3 rfl rfl rfl ?_ | refine x2 rfl rfl ?_ | refine x2L rfl rfl ?_ | refine ⟨_, rfl, ?_⟩)
  refine fs_take (many := 26) h hN (by decide) (by decide) fun r st' r0 r1 h' => ?_
  refine x3 rfl rfl (letter r0 r1) (k _ _ (by omega) (by omega) h')
theorem low_S {l : List Nat} : lowS (SX.S l) = true ↔ ∀ c ∈ l, 97 ≤ c ∧ c ≤ 122 := by
  unfold lowS
  rw [List.all_eq_true]
  simp
theorem joinL_nil : ∀ (ys : List (List Nat)), TL.joinL [] ys = ys.flatten
  | [] => rfl
  | [p] => by simp [TL.joinL]
  | p :: q :: r => by
    rw [TL.joinL, joinL_nil (q :: r)]
    simp
theorem strs_of_S : ∀ (ls : List (List Nat)), MI.strs? (ls.map fun l => D.str (SX.S l)) = some (ls.map SX.S)
  | [] => rfl
  | l :: ls => by
    rw [List.map_cons, MI.strs?, strs_of_S ls]
    rfl
theorem sum_ones : ∀ (ls : List (List Nat)), (∀ l ∈ ls, l.length = 1) → (ls.map List.length).sum = ls.length
  | [], _ => rfl
  | x :: r, h => by
    rw [List.map_cons, List.sum_cons, sum_ones r fun l hl => h l (List.mem_cons_of_mem _ hl), h x (List.mem_cons_self ..), List.length_cons]
    omega
theorem join_ok {ls : List (List Nat)} (h : ∀ l ∈ ls, l.length = 1) (hl : ls.length ≤ 10) : gJoin (.str "") (.lst (ls.map fun l => D.str (SX.S l))) = some (.str (SX.S ls.flatten)) := by
  have e : ("" : Str) = SX.S [] := by kernel_rfl
  unfold gJoin
  simp only [strs_of_S]
  rw [e, SX.lens, SX.join_S, joinL_nil, if_pos]
  rw [sum_ones ls h, List.length_map, SX.S_len]
  simp
  omega
theorem addS_ok {a b : List Nat} (h : a.length + b.length ≤ 1000) : gAdd (.str (SX.S a)) (.str (SX.S b)) = some (.str (SX.S (a ++ b))) := by
  show (if fitL ((SX.S a).length + (SX.S b).length) then some (D.str (SX.S a ++ SX.S b)) else none) = _
  rw [if_pos (fitk (by rw [SX.S_len, SX.S_len]; omega)), SX.S_cat]
/-- the words of a machine -/
structure Wd (ws : List Str) : Prop where
  nd : ws.Nodup
  low : ∀ x ∈ ws, lowS x = true
  nj : ∀ x ∈ ws, x ≠ "join"
theorem ne_join {l : List Nat} (h : l.length ≠ 4) : SX.S l ≠ ("join" : Str) := by
  have e : ("join" : Str) = SX.S [106, 111, 105, 110] := by kernel_rfl
  rw [e]
  intro z
  exact h (by rw [SX.S_inj z]; rfl)
/-- what a comprehension over range(k) made of words -/
theorem range_at {k : Nat} {done rest : List D} {d : D} (h : done ++ d :: rest = rangeD 0 k) : done.length < k ∧ d = .int (done.length : Nat) := by
  have h1 := congrArg List.length h
  rw [rangeD_len, List.length_append, List.length_cons] at h1
  have h2 : (rangeD 0 k)[done.length]? = some d := by rw [← h]; simp
  rw [range_D0, List.getElem?_map, List.getElem?_range (by omega)] at h2
  exact ⟨by omega, by simpa using h2.symm⟩
theorem words_ok {st : Sto} {n N : Nat} {many : Int} {P : D → Sto → Prop} (h : HB st n N) (hN : N ≤ 100000) (h0 : 0 < many) (h1 : many ≤ 3)
    (k : ∀ (ws : List Str) st', Wd ws → (ws.length : Int) = many → HB st' n (N + 12) → P (.tup (ws.map .str)) st') : FS fn__law_words [.obj n, .int many] st P := by
  refine fs_run ?_
  unfold d__law_words
  repeat (first | refine w_seq ?_ | refine w_set ?_ | refine w_rt ?_ | refine w_drop ?_ | refine w_frz ?_ | refine w_multi ?_ | refine w_mcons ?_ | refine w_mnil ?_ | refine w_asg ?_ | refine w_hval ?_ | refine w_var rfl ?_ | refine w_c ?_ | refine w_hslot rfl ?_ | refine w_acons ?_ | refine w_anil ?_ | refine w_op ?_ | refine w_un ?_ | refine w_fn ?_ | refine w_tup ?_ | refine w_lst ?_ | refine w_avals ?_ | refine w_alooks ?_ | refine w_callK ?_ | refine w_cut ?_ | refine w_pint ?_ | refine w_pno ?_ | refine w_bof ?_ | refine w_nx ?_ | refine w_ret ?_ | refine xT rfl (fitk (by decide)) ?_ | refine x3 rfl rfl rfl ?_ | refine x2 rfl rfl ?_ | refine x2L rfl rfl ?_ | refine ⟨_, rfl, ?_⟩)
  refine w_join ?_
  repeat (first | refine w_seq ?_ | refine w_set ?_ | refine w_rt ?_ | refine w_drop ?_ | refine w_frz ?_ | refine w_multi ?_ | refine w_mcons ?_ | refine w_mnil ?_ | refine w_asg ?_ | refine w_hval ?_ | refine w_var rfl ?_ | refine w_c ?_ | refine w_hslot rfl ?_ | refine w_acons ?_ | refine w_anil ?_ | refine w_op ?_ | refine w_un ?_ | refine w_fn ?_ | refine w_tup ?_ | refine w_lst ?_ | refine w_avals ?_ | refine w_alooks ?_ | refine w_callK ?_ | refine w_cut ?_ | refine w_pint ?_ | refine w_pno ?_ | refine w_bof ?_ | refine w_nx ?_ | refine w_ret ?_ | refine xT rfl (fitk (by decide)) ?_ | refine x3 rfl rfl rfl ?_ | refine x2 rfl rfl ?_ | refine x2L rfl rfl ?_ | refine ⟨_, rfl, ?_⟩)
  refine w_lc (fun ds done ys m => ∃ (ls : List (List Nat)) (s4 : Option D) (st : Sto), m = ⟨[some (.obj n), some (.int many), some (.str LT), none, s4, none, none], st⟩ ∧ ys = ls.map (fun l => D.str (SX.S l)) ∧ ls.length = done.length ∧
    (∀ l ∈ ls, l.length = 1 ∧ ∀ c ∈ l, 97 ≤ c ∧ c ≤ 122) ∧ HB st n (N + 1 + done.length)) ?_
  refine w_irange1 ?_
  repeat (first | refine w_seq ?_ | refine w_set ?_ | refine w_rt ?_ | refine w_drop ?_ | refine w_frz ?_ | refine w_multi ?_ | refine w_mcons ?_ | refine w_mnil ?_ | refine w_asg ?_ | refine w_hval ?_ | refine w_var rfl ?_ | refine w_c ?_ | refine w_hslot rfl ?_ | refine w_acons ?_ | refine w_anil ?_ | refine w_op ?_ | refine w_un ?_ | refine w_fn ?_ | refine w_tup ?_ | refine w_lst ?_ | refine w_avals ?_ | refine w_alooks ?_ | refine w_callK ?_ | refine w_cut ?_ | refine w_pint ?_ | refine w_pno ?_ | refine w_bof ?_ | refine w_nx ?_ | refine w_ret ?_ | refine xT rfl (fitk (by decide)) ?_ | refine x3 rfl rfl rfl ?_ | refine x2 rfl rfl ?_ | refine x2L rfl rfl ?_ | refine ⟨_, rfl, ?_⟩)
  refine fs_pickL (ds := [.int 0, .int 0, .int 1, .int 2, .int 7]) h (by omega) (by simp) (by simp) fun d st1 hd h1 => ?_
  obtain ⟨j, rfl, hj⟩ : ∃ j : Nat, d = .int (j : Nat) ∧ (j = 0 ∨ j = 1 ∨ j = 2 ∨ j = 7) := by
    simp only [List.mem_cons, List.not_mem_nil, or_false] at hd
    rcases hd with rfl | rfl | rfl | rfl | rfl
    · exact ⟨0, rfl, by omega⟩
    · exact ⟨0, rfl, by omega⟩
    · exact ⟨1, rfl, by omega⟩
    · exact ⟨2, rfl, by omega⟩
    · exact ⟨7, rfl, by omega⟩
  repeat (first | refine w_seq ?_ | refine w_set ?_ | refine w_rt ?_ | refine w_drop ?_ | refine w_frz ?_ | refine w_multi ?_ | refine w_mcons ?_ | refine w_mnil ?_ | refine w_asg ?_ | refine w_hval ?_ | refine w_var rfl ?_ | refine w_c ?_ | refine w_hslot rfl ?_ | refine w_acons ?_ | refine w_anil ?_ | refine w_op ?_ | refine w_un ?_ | refine w_fn ?_ | refine w_tup ?_ | refine w_lst ?_ | refine w_avals ?_ | refine w_alooks ?_ | refine w_callK ?_ | refine w_cut ?_ | refine w_pint ?_ | refine w_pno ?_ | refine w_bof ?_ | refine w_nx ?_ | refine w_ret ?_ | refine xT rfl (fitk (by decide)) ?_ | refine x3 rfl rfl rfl ?_ | refine x2 rfl rfl ?_ | refine x2L rfl rfl ?_ | refine ⟨_, rfl, ?_⟩)
  refine ⟨small_ok (by omega) (by omega), ⟨[], none, st1, rfl, rfl, rfl, by simp, h1⟩, ?_, ?_⟩
  · rintro done d rest ys m2 he ⟨ls, s4, st2, rfl, rfl, hl, hc, hb⟩
    obtain ⟨hlt, rfl⟩ := range_at he
    refine ⟨_, rfl, w_ret ⟨(fun z => nomatch z), fun _ => ?_⟩⟩
    repeat (first | refine w_seq ?_ | refine w_set ?_ | refine w_rt ?_ | refine w_drop ?_ | refine w_frz ?_ | refine w_multi ?_ | refine w_mcons ?_ | refine w_mnil ?_ | refine w_asg ?_ | refine w_hval ?_ | refine w_var rfl ?_ | refine w_c ?_ | refine w_hslot rfl ?_ | refine w_acons ?_ | refine w_anil ?_ | refine w_op ?_ | refine w_un ?_ | refine w_fn ?_ | refine w_tup ?_ | refine w_lst ?_ | refine w_avals ?_ | refine w_alooks ?_ | refine w_callK ?_ | refine w_cut ?_ | refine w_pint ?_ | refine w_pno ?_ | refine w_bof ?_ | refine w_nx ?_ | refine w_ret ?_ | refine xT rfl (fitk (by decide)) ?_ | refine x3 rfl rfl rfl ?_ | refine x2 rfl rfl ?_ | refine x2L rfl rfl ?_ | refine ⟨_, rfl, ?_⟩)
    refine fs_pickS hb (by omega) fun c st3 c0 c1 h3 => ?_
    refine ⟨ls ++ [[c]], _, st3, rfl, by simp, by simp [hl], fun l hl => ?_, by rw [List.length_append]; exact h3⟩
    rcases List.mem_append.mp hl with hl | hl
    · exact hc l hl
    · rw [List.mem_singleton.mp hl]
      exact ⟨rfl, fun x hx => by rw [List.mem_singleton.mp hx]; exact ⟨c0, c1⟩⟩
  rintro ys m2 ⟨ls, s4, st2, rfl, rfl, hl, hc, hb⟩
  rw [rangeD_len] at hl hb
  have hj2 : (j : Int).toNat = j := by omega
  rw [hj2] at hl hb
  refine ⟨fitk (by rw [List.length_map]; omega), _, join_ok (fun l hl => (hc l hl).1) (by omega), ?_⟩
  have hsl : ls.flatten.length = j := by rw [List.length_flatten, sum_ones ls fun l hl => (hc l hl).1, hl]
  have hsc : ∀ c ∈ ls.flatten, 97 ≤ c ∧ c ≤ 122 := fun c hx => by
    obtain ⟨l, h2, h3⟩ := List.mem_flatten.mp hx
    exact (hc l h2).2 c h3
  generalize ls.flatten = stem at hsl hsc
  show W _ ⟨[some (.obj n), some (.int many), some (.str LT), some (.str (SX.S stem)), none, none, none], st2⟩ _
  repeat (first | refine w_seq ?_ | refine w_set ?_ | refine w_rt ?_ | refine w_drop ?_ | refine w_frz ?_ | refine w_multi ?_ | refine w_mcons ?_ | refine w_mnil ?_ | refine w_asg ?_ | refine w_hval ?_ | refine w_var rfl ?_ | refine w_c ?_ | refine w_hslot rfl ?_ | refine w_acons ?_ | refine w_anil ?_ | refine w_op ?_ | refine w_un ?_ | refine w_fn ?_ | refine w_tup ?_ | refine w_lst ?_ | refine w_avals ?_ | refine w_alooks ?_ | refine w_callK ?_ | refine w_cut ?_ | refine w_pint ?_ | refine w_pno ?_ | refine w_bof ?_ | refine w_nx ?_ | refine w_ret ?_ | refine xT rfl (fitk (by decide)) ?_ | refine x3 rfl rfl rfl ?_ | refine x2 rfl rfl ?_ | refine x2L rfl rfl ?_ | refine ⟨_, rfl, ?_⟩)
  refine fs_take (many := 26) hb (by omega) (by decide) (by decide) fun f st3 f0 f1 h3 => ?_
  repeat (first | refine w_seq ?_ | refine w_set ?_ | refine w_rt ?_ | refine w_drop ?_ | refine w_frz ?_ | refine w_multi ?_ | refine w_mcons ?_ | refine w_mnil ?_ | refine w_asg ?_ | refine w_hval ?_ | refine w_var rfl ?_ | refine w_c ?_ | refine w_hslot rfl ?_ | refine w_acons ?_ | refine w_anil ?_ | refine w_op ?_ | refine w_un ?_ | refine w_fn ?_ | refine w_tup ?_ | refine w_lst ?_ | refine w_avals ?_ | refine w_alooks ?_ | refine w_callK ?_ | refine w_cut ?_ | refine w_pint ?_ | refine w_pno ?_ | refine w_bof ?_ | refine w_nx ?_ | refine w_ret ?_ | refine xT rfl (fitk (by decide)) ?_ | refine x3 rfl rfl rfl ?_ | refine x2 rfl rfl ?_ | refine x2L rfl rfl ?_ | refine ⟨_, rfl, ?_⟩)
  refine fs_pickL (ds := [.int 1, .int 3, .int 5, .int 25]) h3 (by omega) (by simp) (by simp) fun d st4 hd h4 => ?_
  obtain ⟨s, rfl, hs⟩ : ∃ s : Int, d = .int s ∧ (s = 1 ∨ s = 3 ∨ s = 5 ∨ s = 25) := by
    simp only [List.mem_cons, List.not_mem_nil, or_false] at hd
    rcases hd with rfl | rfl | rfl | rfl
    · exact ⟨1, rfl, by omega⟩
    · exact ⟨3, rfl, by omega⟩
    · exact ⟨5, rfl, by omega⟩
    · exact ⟨25, rfl, by omega⟩
  repeat (first | refine w_seq ?_ | refine w_set ?_ | refine w_rt ?_ | refine w_drop ?_ | refine w_frz ?_ | refine w_multi ?_ | refine w_mcons ?_ | refine w_mnil ?_ | refine w_asg ?_ | refine w_hval ?_ | refine w_var rfl ?_ | refine w_c ?_ | refine w_hslot rfl ?_ | refine w_acons ?_ | refine w_anil ?_ | refine w_op ?_ | refine w_un ?_ | refine w_fn ?_ | refine w_tup ?_ | refine w_lst ?_ | refine w_avals ?_ | refine w_alooks ?_ | refine w_callK ?_ | refine w_cut ?_ | refine w_pint ?_ | refine w_pno ?_ | refine w_bof ?_ | refine w_nx ?_ | refine w_ret ?_ | refine xT rfl (fitk (by decide)) ?_ | refine x3 rfl rfl rfl ?_ | refine x2 rfl rfl ?_ | refine x2L rfl rfl ?_ | refine ⟨_, rfl, ?_⟩)
  refine ⟨rfl, ?_⟩
  show W _ ⟨[some (.obj n), some (.int many), some (.str LT), some (.str (SX.S stem)), none, some (.int f), some (.int s)], st4⟩ _
  repeat (first | refine w_seq ?_ | refine w_set ?_ | refine w_rt ?_ | refine w_drop ?_ | refine w_frz ?_ | refine w_multi ?_ | refine w_mcons ?_ | refine w_mnil ?_ | refine w_asg ?_ | refine w_hval ?_ | refine w_var rfl ?_ | refine w_c ?_ | refine w_hslot rfl ?_ | refine w_acons ?_ | refine w_anil ?_ | refine w_op ?_ | refine w_un ?_ | refine w_fn ?_ | refine w_tup ?_ | refine w_lst ?_ | refine w_avals ?_ | refine w_alooks ?_ | refine w_callK ?_ | refine w_cut ?_ | refine w_pint ?_ | refine w_pno ?_ | refine w_bof ?_ | refine w_nx ?_ | refine w_ret ?_ | refine xT rfl (fitk (by decide)) ?_ | refine x3 rfl rfl rfl ?_ | refine x2 rfl rfl ?_ | refine x2L rfl rfl ?_ | refine ⟨_, rfl, ?_⟩)
  let g : Nat → Str := fun k => SX.S (stem ++ [97 + ((f + s * (k : Int)) % 26).toNat])
  refine w_lc (fun ds done ys m => ∃ s4, m = ⟨[some (.obj n), some (.int many), some (.str LT), some (.str (SX.S stem)), s4, some (.int f), some (.int s)], st4⟩ ∧ ys = ((List.range done.length).map g).map .str) ?_
  refine w_irange1 ?_
  repeat (first | refine w_seq ?_ | refine w_set ?_ | refine w_rt ?_ | refine w_drop ?_ | refine w_frz ?_ | refine w_multi ?_ | refine w_mcons ?_ | refine w_mnil ?_ | refine w_asg ?_ | refine w_hval ?_ | refine w_var rfl ?_ | refine w_c ?_ | refine w_hslot rfl ?_ | refine w_acons ?_ | refine w_anil ?_ | refine w_op ?_ | refine w_un ?_ | refine w_fn ?_ | refine w_tup ?_ | refine w_lst ?_ | refine w_avals ?_ | refine w_alooks ?_ | refine w_callK ?_ | refine w_cut ?_ | refine w_pint ?_ | refine w_pno ?_ | refine w_bof ?_ | refine w_nx ?_ | refine w_ret ?_ | refine xT rfl (fitk (by decide)) ?_ | refine x3 rfl rfl rfl ?_ | refine x2 rfl rfl ?_ | refine x2L rfl rfl ?_ | refine ⟨_, rfl, ?_⟩)
  refine ⟨small_ok (by omega) (by omega), ⟨none, rfl, rfl⟩, ?_, ?_⟩
  · rintro done d rest ys m2 he ⟨s4, rfl, rfl⟩
    obtain ⟨hlt, rfl⟩ := range_at he
    refine ⟨_, rfl, w_ret ⟨(fun z => nomatch z), fun _ => ?_⟩⟩
    repeat (first | refine w_seq ?_ | refine w_set ?_ | refine w_rt ?_ | refine w_drop ?_ | refine w_frz ?_ | refine w_multi ?_ | refine w_mcons ?_ | refine w_mnil ?_ | refine w_asg ?_ | refine w_hval ?_ | refine w_var rfl ?_ | refine w_c ?_ | refine w_hslot rfl ?_ | refine w_acons ?_ | refine w_anil ?_ | refine w_op ?_ | refine w_un ?_ | refine w_fn ?_ | refine w_tup ?_ | refine w_lst ?_ | refine w_avals ?_ | refine w_alooks ?_ | refine w_callK ?_ | refine w_cut ?_ | refine w_pint ?_ | refine w_pno ?_ | refine w_bof ?_ | refine w_nx ?_ | refine w_ret ?_ | refine xT rfl (fitk (by decide)) ?_ | refine x3 rfl rfl rfl ?_ | refine x2 rfl rfl ?_ | refine x2L rfl rfl ?_ | refine ⟨_, rfl, ?_⟩)
    have big : (1000 : Int) < 2 ^ 200 := p200
    refine x3 rfl rfl (gMul_ok (by rcases hs with rfl | rfl | rfl | rfl <;> omega) (by rcases hs with rfl | rfl | rfl | rfl <;> omega) (by omega) (by omega)) ?_
    repeat (first | refine w_seq ?_ | refine w_set ?_ | refine w_rt ?_ | refine w_drop ?_ | refine w_frz ?_ | refine w_multi ?_ | refine w_mcons ?_ | refine w_mnil ?_ | refine w_asg ?_ | refine w_hval ?_ | refine w_var rfl ?_ | refine w_c ?_ | refine w_hslot rfl ?_ | refine w_acons ?_ | refine w_anil ?_ | refine w_op ?_ | refine w_un ?_ | refine w_fn ?_ | refine w_tup ?_ | refine w_lst ?_ | refine w_avals ?_ | refine w_alooks ?_ | refine w_callK ?_ | refine w_cut ?_ | refine w_pint ?_ | refine w_pno ?_ | refine w_bof ?_ | refine w_nx ?_ | refine w_ret ?_ | refine xT rfl (fitk (by decide)) ?_ | refine x3 rfl rfl rfl ?_ | refine x2 rfl rfl ?_ | refine x2L rfl rfl ?_ | refine ⟨_, rfl, ?_⟩)
    have b0 : 0 ≤ (f + s * ((done.length : Nat) : Int)) % 26 := Int.emod_nonneg _ (by decide)
    have b1 : (f + s * ((done.length : Nat) : Int)) % 26 < 26 := Int.emod_lt_of_pos _ (by decide)
    refine x3 rfl rfl (letter b0 b1) ?_
    repeat (first | refine w_seq ?_ | refine w_set ?_ | refine w_rt ?_ | refine w_drop ?_ | refine w_frz ?_ | refine w_multi ?_ | refine w_mcons ?_ | refine w_mnil ?_ | refine w_asg ?_ | refine w_hval ?_ | refine w_var rfl ?_ | refine w_c ?_ | refine w_hslot rfl ?_ | refine w_acons ?_ | refine w_anil ?_ | refine w_op ?_ | refine w_un ?_ | refine w_fn ?_ | refine w_tup ?_ | refine w_lst ?_ | refine w_avals ?_ | refine w_alooks ?_ | refine w_callK ?_ | refine w_cut ?_ | refine w_pint ?_ | refine w_pno ?_ | refine w_bof ?_ | refine w_nx ?_ | refine w_ret ?_ | refine xT rfl (fitk (by decide)) ?_ | refine x3 rfl rfl rfl ?_ | refine x2 rfl rfl ?_ | refine x2L rfl rfl ?_ | refine ⟨_, rfl, ?_⟩)
    refine x3 rfl rfl (addS_ok (by rw [List.length_singleton]; omega)) ?_
    refine ⟨_, rfl, ?_⟩
    rw [List.length_append, List.length_singleton, List.range_succ, List.map_append, List.map_append]
    rfl
  rintro ys m2 ⟨s4, rfl, rfl⟩
  rw [rangeD_len]
  refine ⟨fitk (by simp; omega), ?_⟩
  obtain ⟨ws, e, hp⟩ := sorted_strs (l := (List.range many.toNat).map g)
  repeat (first | refine w_seq ?_ | refine w_set ?_ | refine w_rt ?_ | refine w_drop ?_ | refine w_frz ?_ | refine w_multi ?_ | refine w_mcons ?_ | refine w_mnil ?_ | refine w_asg ?_ | refine w_hval ?_ | refine w_var rfl ?_ | refine w_c ?_ | refine w_hslot rfl ?_ | refine w_acons ?_ | refine w_anil ?_ | refine w_op ?_ | refine w_un ?_ | refine w_fn ?_ | refine w_tup ?_ | refine w_lst ?_ | refine w_avals ?_ | refine w_alooks ?_ | refine w_callK ?_ | refine w_cut ?_ | refine w_pint ?_ | refine w_pno ?_ | refine w_bof ?_ | refine w_nx ?_ | refine w_ret ?_ | refine xT rfl (fitk (by decide)) ?_ | refine x3 rfl rfl rfl ?_ | refine x2 rfl rfl ?_ | refine x2L rfl rfl ?_ | refine ⟨_, rfl, ?_⟩)
  refine x2L rfl e ?_
  repeat (first | refine w_seq ?_ | refine w_set ?_ | refine w_rt ?_ | refine w_drop ?_ | refine w_frz ?_ | refine w_multi ?_ | refine w_mcons ?_ | refine w_mnil ?_ | refine w_asg ?_ | refine w_hval ?_ | refine w_var rfl ?_ | refine w_c ?_ | refine w_hslot rfl ?_ | refine w_acons ?_ | refine w_anil ?_ | refine w_op ?_ | refine w_un ?_ | refine w_fn ?_ | refine w_tup ?_ | refine w_lst ?_ | refine w_avals ?_ | refine w_alooks ?_ | refine w_callK ?_ | refine w_cut ?_ | refine w_pint ?_ | refine w_pno ?_ | refine w_bof ?_ | refine w_nx ?_ | refine w_ret ?_ | refine xT rfl (fitk (by decide)) ?_ | refine x3 rfl rfl rfl ?_ | refine x2 rfl rfl ?_ | refine x2L rfl rfl ?_ | refine ⟨_, rfl, ?_⟩)
  refine k ws _ ⟨?_, ?_, ?_⟩ ?_ (h4.mono (by omega))
  · rw [hp.nodup_iff]
    refine List.pairwise_map.mpr (List.Pairwise.imp_of_mem ?_ List.pairwise_lt_range)
    intro a b ha hb2 hab
    rw [List.mem_range] at ha hb2
    intro z
    have z := SX.S_inj z
    rw [List.append_right_inj] at z
    simp only [List.cons.injEq, and_true] at z
    rcases hs with rfl | rfl | rfl | rfl <;> omega
  · intro x hx
    obtain ⟨i, _, rfl⟩ := List.mem_map.mp (hp.mem_iff.mp hx)
    refine low_S.mpr fun c hc2 => ?_
    rcases List.mem_append.mp hc2 with hc2 | hc2
    · exact hsc c hc2
    · rw [List.mem_singleton.mp hc2]
      omega
  · intro x hx
    obtain ⟨i, _, rfl⟩ := List.mem_map.mp (hp.mem_iff.mp hx)
    exact ne_join (by rw [List.length_append, List.length_singleton]; omega)
  · rw [hp.length_eq, List.length_map, List.length_range]
    omega
end Lk10

namespace Lk10
open PySem PySem.Spec L2 MI
/-! ### some -/
theorem popAt_ok {ds : List D} {i : Int} (h0 : 0 ≤ i) (h1 : i < ds.length) (h2 : ds.length ≤ 100000) : ∃ x, x ∈ ds ∧ gPopAt ds [.int i] = some (x, ds.eraseIdx i.toNat) := by
  have hl : i.toNat < ds.length := by omega
  have p : (2 : Int) ^ 63 = 9223372036854775808 := by decide
  refine ⟨ds[i.toNat], List.getElem_mem _, ?_⟩
  show (if 0 ≤ i ∧ i < 2 ^ 63 then (match ds[i.toNat]? with | some x => some (x, ds.eraseIdx i.toNat) | none => none) else none) = _
  rw [if_pos ⟨h0, by omega⟩, List.getElem?_eq_getElem hl]
theorem some_ok {st : Sto} {n N k : Nat} {ds : List D} {P : D → Sto → Prop} (h : HB st n N) (hN : N ≤ 100000) (hk : k ≤ ds.length) (hl : ds.length ≤ 100)
    (q : ∀ ys st', (∀ y ∈ ys, y ∈ ds) → ys.length = k → HB st' n (N + k) → P (.tup ys) st') : FS fn__law_some [.obj n, .lst ds, .int (k : Nat)] st P := by
  refine fs_run ?_
  unfold d__law_some
  repeat (first | refine w_seq ?_ | refine w_set ?_ | refine w_rt ?_ | refine w_drop ?_ | refine w_frz ?_ | refine w_multi ?_ | refine w_mcons ?_ | refine w_mnil ?_ | refine w_asg ?_ | refine w_hval ?_ | refine w_var rfl ?_ | refine w_c ?_ | refine w_hslot rfl ?_ | refine w_acons ?_ | refine w_anil ?_ | refine w_op ?_ | refine w_un ?_ | refine w_fn ?_ | refine w_tup ?_ | refine w_lst ?_ | refine w_avals ?_ | refine w_alooks ?_ | refine w_callK ?_ | refine w_cut ?_ | refine w_pint ?_ | refine w_pno ?_ | refine w_bof ?_ | refine w_nx ?_ | refine w_ret ?_ | refine xT rfl (fitk (by decide)) ?_ | refine x3 rfl rfl rfl ?_ | refine x2 rfl rfl ?_ | refine x2L rfl rfl ?_ | refine ⟨_, rfl, ?_⟩)
  show W _ ⟨[some (.obj n), some (.lst ds), some (.int (k : Nat)), some (.lst ds), none], st⟩ _
  refine w_lc (fun _ done ys m => ∃ (left : List D) (s4 : Option D) (st : Sto), m = ⟨[some (.obj n), some (.lst ds), some (.int (k : Nat)), some (.lst left), s4], st⟩ ∧ (∀ y ∈ ys, y ∈ ds) ∧ ys.length = done.length ∧ (∀ y ∈ left, y ∈ ds) ∧ left.length + done.length = ds.length ∧ HB st n (N + done.length)) ?_
  refine w_irange1 ?_
  repeat (first | refine w_seq ?_ | refine w_set ?_ | refine w_rt ?_ | refine w_drop ?_ | refine w_frz ?_ | refine w_multi ?_ | refine w_mcons ?_ | refine w_mnil ?_ | refine w_asg ?_ | refine w_hval ?_ | refine w_var rfl ?_ | refine w_c ?_ | refine w_hslot rfl ?_ | refine w_acons ?_ | refine w_anil ?_ | refine w_op ?_ | refine w_un ?_ | refine w_fn ?_ | refine w_tup ?_ | refine w_lst ?_ | refine w_avals ?_ | refine w_alooks ?_ | refine w_callK ?_ | refine w_cut ?_ | refine w_pint ?_ | refine w_pno ?_ | refine w_bof ?_ | refine w_nx ?_ | refine w_ret ?_ | refine xT rfl (fitk (by decide)) ?_ | refine x3 rfl rfl rfl ?_ | refine x2 rfl rfl ?_ | refine x2L rfl rfl ?_ | refine ⟨_, rfl, ?_⟩)
  refine ⟨small_ok (by omega) (by omega), ⟨ds, none, st, rfl, by simp, rfl, fun y hy => hy, by simp, h⟩, ?_, ?_⟩
  · rintro done d rest ys m2 he ⟨left, s4, st2, rfl, hy, hyl, hlf, hll, hb⟩
    obtain ⟨hlt, rfl⟩ := range_at he
    refine ⟨_, rfl, w_ret ⟨(fun z => nomatch z), fun _ => ?_⟩⟩
    refine w_mut rfl ?_
    repeat (first | refine w_seq ?_ | refine w_set ?_ | refine w_rt ?_ | refine w_drop ?_ | refine w_frz ?_ | refine w_multi ?_ | refine w_mcons ?_ | refine w_mnil ?_ | refine w_asg ?_ | refine w_hval ?_ | refine w_var rfl ?_ | refine w_c ?_ | refine w_hslot rfl ?_ | refine w_acons ?_ | refine w_anil ?_ | refine w_op ?_ | refine w_un ?_ | refine w_fn ?_ | refine w_tup ?_ | refine w_lst ?_ | refine w_avals ?_ | refine w_alooks ?_ | refine w_callK ?_ | refine w_cut ?_ | refine w_pint ?_ | refine w_pno ?_ | refine w_bof ?_ | refine w_nx ?_ | refine w_ret ?_ | refine xT rfl (fitk (by decide)) ?_ | refine x3 rfl rfl rfl ?_ | refine x2 rfl rfl ?_ | refine x2L rfl rfl ?_ | refine ⟨_, rfl, ?_⟩)
    refine fs_take (many := (left.length : Nat)) hb (by omega) (by omega) (by omega) fun r st3 r0 r1 h3 => ?_
    obtain ⟨x, hx, e⟩ := popAt_ok (ds := left) r0 r1 (by omega)
    repeat (first | refine w_seq ?_ | refine w_set ?_ | refine w_rt ?_ | refine w_drop ?_ | refine w_frz ?_ | refine w_multi ?_ | refine w_mcons ?_ | refine w_mnil ?_ | refine w_asg ?_ | refine w_hval ?_ | refine w_var rfl ?_ | refine w_c ?_ | refine w_hslot rfl ?_ | refine w_acons ?_ | refine w_anil ?_ | refine w_op ?_ | refine w_un ?_ | refine w_fn ?_ | refine w_tup ?_ | refine w_lst ?_ | refine w_avals ?_ | refine w_alooks ?_ | refine w_callK ?_ | refine w_cut ?_ | refine w_pint ?_ | refine w_pno ?_ | refine w_bof ?_ | refine w_nx ?_ | refine w_ret ?_ | refine xT rfl (fitk (by decide)) ?_ | refine x3 rfl rfl rfl ?_ | refine x2 rfl rfl ?_ | refine x2L rfl rfl ?_ | refine ⟨_, rfl, ?_⟩)
    refine ⟨left, x, _, rfl, e, ?_⟩
    refine ⟨_, _, st3, rfl, ?_, by simp [hyl], ?_, ?_, by rw [List.length_append]; exact h3⟩
    · intro y hy2
      rcases List.mem_append.mp hy2 with z | z
      · exact hy y z
      · rw [List.mem_singleton.mp z]; exact hlf x hx
    · intro y hy2
      exact hlf y (List.mem_of_mem_eraseIdx hy2)
    · rw [List.length_eraseIdx_of_lt (by omega), List.length_append, List.length_singleton]
      omega
  rintro ys m2 ⟨left, s4, st2, rfl, hy, hyl, hlf, hll, hb⟩
  rw [rangeD_len] at hyl hb
  have hk2 : (k : Int).toNat = k := by omega
  rw [hk2] at hyl hb
  refine ⟨fitk (by omega), ?_⟩
  repeat (first | refine w_seq ?_ | refine w_set ?_ | refine w_rt ?_ | refine w_drop ?_ | refine w_frz ?_ | refine w_multi ?_ | refine w_mcons ?_ | refine w_mnil ?_ | refine w_asg ?_ | refine w_hval ?_ | refine w_var rfl ?_ | refine w_c ?_ | refine w_hslot rfl ?_ | refine w_acons ?_ | refine w_anil ?_ | refine w_op ?_ | refine w_un ?_ | refine w_fn ?_ | refine w_tup ?_ | refine w_lst ?_ | refine w_avals ?_ | refine w_alooks ?_ | refine w_callK ?_ | refine w_cut ?_ | refine w_pint ?_ | refine w_pno ?_ | refine w_bof ?_ | refine w_nx ?_ | refine w_ret ?_ | refine xT rfl (fitk (by decide)) ?_ | refine x3 rfl rfl rfl ?_ | refine x2 rfl rfl ?_ | refine x2L rfl rfl ?_ | refine ⟨_, rfl, ?_⟩)
  exact q ys _ hy hyl hb
/-! ### the tables' sizes -/
theorem at_small : ∀ t ∈ AT, t.length ≤ 3 ∧ ∀ q ∈ t, (-2 < q.1 ∧ q.1 < 3) ∧ q.2.length ≤ 4 ∧ ∀ c ∈ q.2, (-2 < c.1 ∧ c.1 < 3) ∧ (-2 < c.2 ∧ c.2 < 3) := by decide +kernel
theorem fr_small : ∀ f ∈ FR, f.length ≤ 2 ∧ ∀ k ∈ f, k ≤ 2 := by decide +kernel
theorem fl_small : ∀ t ∈ AT, ∀ f ∈ FR, (fl t f).length ≤ 100 ∧ ∀ r ∈ fl t f, r.length = f.length ∧ ∀ i : Fin 2, ∀ h ∈ r[i.val]?, ∀ k ∈ f[i.val]?, ∃ q ∈ t, q.1 = h ∧ k ≤ q.2.length := by decide +kernel
theorem flne0 : AT.map (fun t => FR.map fun f => gNe (.lst ((fl t f).map rowD)) (.lst [])) = AT.map (fun t => FR.map fun f => some (.bl (!(fl t f).isEmpty))) := by kernel_rfl
theorem flne : ∀ t ∈ AT, ∀ f ∈ FR, gNe (.lst ((fl t f).map rowD)) (.lst []) = some (.bl (!(fl t f).isEmpty)) := fun t ht => map_pt (map_pt flne0 t ht)
theorem keys_mem : ∀ t ∈ AT, ∀ h ∈ srtI (t.map (·.1)), ∃ q ∈ t, q.1 = h := fun t _ h hh => by
  obtain ⟨q, hq, e⟩ := List.mem_map.mp (srtI_mem.mp hh)
  exact ⟨q, hq, e⟩
theorem kd_qD {c : Int × Int} (h1 : -1000 < c.1 ∧ c.1 < 1000) (h2 : -1000 < c.2 ∧ c.2 < 1000) : Kd 1 (qD c) := Kd.tup fun d hd => by
  simp only [List.mem_cons, List.not_mem_nil, or_false] at hd
  rcases hd with rfl | rfl
  · exact small_int h1.1 h1.2
  · exact small_int h2.1 h2.2
theorem kd_hD {h : Int} (h1 : -1000 < h ∧ h < 1000) : Kd 1 (hD h) := Kd.tup fun d hd => by
  rw [List.mem_singleton.mp hd]
  exact small_int h1.1 h1.2
/-- what enumerate tells -/
theorem enum_at {α : Type} {enc : α → D} {xs : List α} {done rest : List D} {d : D} (h : done ++ d :: rest = enumD 0 (xs.map enc)) : ∃ x, xs[done.length]? = some x ∧ d = .tup [.int (done.length : Nat), enc x] := by
  have e : enumD 0 (xs.map enc) = (zi 0 xs).map fun p => .tup [.int (p.1 : Nat), enc p.2] := enum_zi
  rw [e] at h
  have h2 : ((zi 0 xs).map fun p => D.tup [.int (p.1 : Nat), enc p.2])[done.length]? = some d := by rw [← h]; simp
  rw [List.getElem?_map, Option.map_eq_some_iff] at h2
  obtain ⟨p, hp, rfl⟩ := h2
  have hz : ∀ (xs : List α) (k i : Nat) (p : Nat × α), (zi k xs)[i]? = some p → p.1 = k + i ∧ xs[i]? = some p.2 := by
    intro xs
    induction xs with
    | nil => intro k i p h; simp [zi] at h
    | cons x r ih =>
      intro k i p h
      cases i with
      | zero => simp [zi] at h; subst h; simp
      | succ i =>
        simp only [zi, List.getElem?_cons_succ] at h
        obtain ⟨h1, h2⟩ := ih _ _ _ h
        exact ⟨by omega, by simpa using h2⟩
  obtain ⟨h1, h2⟩ := hz xs 0 _ p hp
  refine ⟨p.2, h2, ?_⟩
  rw [h1, Nat.zero_add]
theorem enum_len {α : Type} {enc : α → D} {xs : List α} : (enumD 0 (xs.map enc)).length = xs.length := by
  have e : enumD 0 (xs.map enc) = (zi 0 xs).map fun p => .tup [.int (p.1 : Nat), enc p.2] := enum_zi
  rw [e, List.length_map, zi_len]
theorem cut_mem {ds : List D} {lo hi : Option Int} {d : D} (h : d ∈ cutD ds lo hi) : d ∈ ds := by
  unfold cutD at h
  exact List.mem_of_mem_drop (List.mem_of_mem_take h)
theorem cut_len {ds : List D} {lo hi : Option Int} : (cutD ds lo hi).length ≤ ds.length := by
  unfold cutD
  rw [List.length_take, List.length_drop]
  omega
theorem ixL {α : Type} {enc : α → D} {xs : List α} {k : Nat} {x : α} (h : xs[k]? = some x) : gIxA (.lst (xs.map enc)) (.int (k : Nat)) = some (enc x) := by
  obtain ⟨h1, h2⟩ := List.getElem?_eq_some_iff.mp h
  rw [MI.ix_lst (by omega) (by rw [List.length_map]; omega)]
  simp [h2]
theorem ixT {α : Type} {enc : α → D} {xs : List α} {k : Nat} {x : α} (h : xs[k]? = some x) : gIxA (.tup (xs.map enc)) (.int (k : Nat)) = some (enc x) := by
  obtain ⟨h1, h2⟩ := List.getElem?_eq_some_iff.mp h
  rw [MI.ix_tup (by omega) (by rw [List.length_map]; omega)]
  simp [h2]
end Lk10

namespace Lk10
open PySem PySem.Spec L2 MI
theorem fs_of {f : MI.Fn} {ds : List D} {st st' : Sto} {d : D} {P : D → Sto → Prop} (e : f ds st = some (d, st')) (q : P d st') : FS f ds st P := ⟨⟨d, st', e, q⟩⟩
theorem zip_at : ∀ {xs ys done rest : List D} {d : D}, done ++ d :: rest = zipD xs ys → ∃ x y, xs[done.length]? = some x ∧ ys[done.length]? = some y ∧ d = .tup [x, y]
  | [], _, done, rest, d, h => by simp [zipD] at h
  | _ :: _, [], done, rest, d, h => by simp [zipD] at h
  | x :: xs, y :: ys, [], rest, d, h => by
    simp only [zipD, List.nil_append, List.cons.injEq] at h
    exact ⟨x, y, rfl, rfl, h.1⟩
  | x :: xs, y :: ys, e :: done, rest, d, h => by
    simp only [zipD, List.cons_append, List.cons.injEq] at h
    simpa using zip_at h.2
theorem zip_len : ∀ {xs ys : List D}, (zipD xs ys).length ≤ ys.length
  | [], _ => by simp [zipD]
  | _ :: _, [] => by simp [zipD]
  | x :: xs, y :: ys => by
    simp only [zipD, List.length_cons]
    have := zip_len (xs := xs) (ys := ys)
    omega
abbrev mR (n : Nat) (fs : List Fr) (shape : Fr) (t : Str) (c : Int × Int) (mks : List D) (T : Th) (a6 a7 a8 a9 a10 a11 a12 a13 a14 a15 : Option D) (st : Sto) : MS :=
  ⟨[some (.obj n), some (.lst (fs.map frD)), some (frD shape), some (.tup [.str t, qD c]), some (.tup mks), some (thD T), a6, a7, a8, a9, a10, a11, a12, a13, a14, a15], st⟩
theorem rule_ok {st : Sto} {n N : Nat} {fs : List Fr} {shape : Fr} {t : Str} {c : Int × Int} {T : Th} {mks : List D} {P : D → Sto → Prop} (h : HB st n N) (hN : N ≤ 90000)
    (hfs : ∀ f ∈ fs, f ∈ FR) (h0 : fs[0]? = some []) (hfl : fs.length ≤ 10) (hT : T ∈ AT) (hth : ∀ st, fn__law_there [frD shape, .str t, qD c] st = some (thD T, st))
    (hm : mks ≠ []) (hml : mks.length ≤ 3) (hmk : ∀ d ∈ mks, Kd 1 d)
    (k : ∀ (g : Nat) (fi sa : List D) st', g < fs.length → Kd 5 (.tup fi) → Kd 5 (.tup sa) → HB st' n (N + 12) → P (.tup [.int (g : Nat), .tup fi, .tup sa]) st') :
    FS fn__law_rule [.obj n, .lst (fs.map frD), frD shape, .tup [.str t, qD c], .tup mks] st P := by
  have hTs := at_small T hT
  refine fs_run ?_
  unfold d__law_rule
  repeat (first | refine w_seq ?_ | refine w_set ?_ | refine w_rt ?_ | refine w_drop ?_ | refine w_frz ?_ | refine w_multi ?_ | refine w_mcons ?_ | refine w_mnil ?_ | refine w_asg ?_ | refine w_hval ?_ | refine w_var rfl ?_ | refine w_c ?_ | refine w_hslot rfl ?_ | refine w_acons ?_ | refine w_anil ?_ | refine w_op ?_ | refine w_un ?_ | refine w_fn ?_ | refine w_tup ?_ | refine w_lst ?_ | refine w_avals ?_ | refine w_alooks ?_ | refine w_callK ?_ | refine w_cut ?_ | refine w_pint ?_ | refine w_pno ?_ | refine w_bof ?_ | refine w_nx ?_ | refine w_ret ?_ | refine xT rfl (fitk (Nat.le_of_ble_eq_true rfl)) ?_ | refine x3 rfl rfl rfl ?_ | refine x2 rfl rfl ?_ | refine x2L rfl rfl ?_ | refine ⟨_, rfl, ?_⟩)
  refine fs_of (hth _) ?_
  show W _ (mR n fs shape t c mks T none none none none none none none none none none st) _
  repeat (first | refine w_seq ?_ | refine w_set ?_ | refine w_rt ?_ | refine w_drop ?_ | refine w_frz ?_ | refine w_multi ?_ | refine w_mcons ?_ | refine w_mnil ?_ | refine w_asg ?_ | refine w_hval ?_ | refine w_var rfl ?_ | refine w_c ?_ | refine w_hslot rfl ?_ | refine w_acons ?_ | refine w_anil ?_ | refine w_op ?_ | refine w_un ?_ | refine w_fn ?_ | refine w_tup ?_ | refine w_lst ?_ | refine w_avals ?_ | refine w_alooks ?_ | refine w_callK ?_ | refine w_cut ?_ | refine w_pint ?_ | refine w_pno ?_ | refine w_bof ?_ | refine w_nx ?_ | refine w_ret ?_ | refine xT rfl (fitk (Nat.le_of_ble_eq_true rfl)) ?_ | refine x3 rfl rfl rfl ?_ | refine x2 rfl rfl ?_ | refine x2L rfl rfl ?_ | refine ⟨_, rfl, ?_⟩)
  refine w_lc (fun _ done ys m => ∃ (gs : List Nat) (a7 a8 : Option D), m = mR n fs shape t c mks T none a7 a8 none none none none none none none st ∧ ys = gs.map (fun g => D.int (g : Nat)) ∧ (∀ g ∈ gs, ∃ f, fs[g]? = some f ∧ fl T f ≠ []) ∧ gs.length ≤ done.length ∧ (done ≠ [] → gs ≠ [])) ?_
  refine w_ienum ?_
  repeat (first | refine w_seq ?_ | refine w_set ?_ | refine w_rt ?_ | refine w_drop ?_ | refine w_frz ?_ | refine w_multi ?_ | refine w_mcons ?_ | refine w_mnil ?_ | refine w_asg ?_ | refine w_hval ?_ | refine w_var rfl ?_ | refine w_c ?_ | refine w_hslot rfl ?_ | refine w_acons ?_ | refine w_anil ?_ | refine w_op ?_ | refine w_un ?_ | refine w_fn ?_ | refine w_tup ?_ | refine w_lst ?_ | refine w_avals ?_ | refine w_alooks ?_ | refine w_callK ?_ | refine w_cut ?_ | refine w_pint ?_ | refine w_pno ?_ | refine w_bof ?_ | refine w_nx ?_ | refine w_ret ?_ | refine xT rfl (fitk (Nat.le_of_ble_eq_true rfl)) ?_ | refine x3 rfl rfl rfl ?_ | refine x2 rfl rfl ?_ | refine x2L rfl rfl ?_ | refine ⟨_, rfl, ?_⟩)
  refine ⟨fs.map frD, .inl rfl, ⟨[], none, none, rfl, rfl, by simp, by simp, fun z => absurd rfl z⟩, ?_, ?_⟩
  · rintro done d rest ys m2 he ⟨gs, a7, a8, rfl, rfl, hg, hgl, hgn⟩
    obtain ⟨f, hf, rfl⟩ := enum_at he
    have hfR := hfs f (List.mem_of_getElem? hf)
    refine ⟨_, rfl, ?_⟩
    repeat (first | refine w_seq ?_ | refine w_set ?_ | refine w_rt ?_ | refine w_drop ?_ | refine w_frz ?_ | refine w_multi ?_ | refine w_mcons ?_ | refine w_mnil ?_ | refine w_asg ?_ | refine w_hval ?_ | refine w_var rfl ?_ | refine w_c ?_ | refine w_hslot rfl ?_ | refine w_acons ?_ | refine w_anil ?_ | refine w_op ?_ | refine w_un ?_ | refine w_fn ?_ | refine w_tup ?_ | refine w_lst ?_ | refine w_avals ?_ | refine w_alooks ?_ | refine w_callK ?_ | refine w_cut ?_ | refine w_pint ?_ | refine w_pno ?_ | refine w_bof ?_ | refine w_nx ?_ | refine w_ret ?_ | refine xT rfl (fitk (Nat.le_of_ble_eq_true rfl)) ?_ | refine x3 rfl rfl rfl ?_ | refine x2 rfl rfl ?_ | refine x2L rfl rfl ?_ | refine ⟨_, rfl, ?_⟩)
    refine fs_of (fills_ok _ T hT f hfR) ?_
    repeat (first | refine w_seq ?_ | refine w_set ?_ | refine w_rt ?_ | refine w_drop ?_ | refine w_frz ?_ | refine w_multi ?_ | refine w_mcons ?_ | refine w_mnil ?_ | refine w_asg ?_ | refine w_hval ?_ | refine w_var rfl ?_ | refine w_c ?_ | refine w_hslot rfl ?_ | refine w_acons ?_ | refine w_anil ?_ | refine w_op ?_ | refine w_un ?_ | refine w_fn ?_ | refine w_tup ?_ | refine w_lst ?_ | refine w_avals ?_ | refine w_alooks ?_ | refine w_callK ?_ | refine w_cut ?_ | refine w_pint ?_ | refine w_pno ?_ | refine w_bof ?_ | refine w_nx ?_ | refine w_ret ?_ | refine xT rfl (fitk (Nat.le_of_ble_eq_true rfl)) ?_ | refine x3 rfl rfl rfl ?_ | refine x2 rfl rfl ?_ | refine x2L rfl rfl ?_ | refine ⟨_, rfl, ?_⟩)
    refine x3 rfl rfl (flne T hT f hfR) ⟨_, rfl, ?_, ?_⟩
    · intro hb
      refine ⟨gs, _, _, rfl, rfl, hg, by rw [List.length_append]; omega, fun _ => ?_⟩
      cases done with
      | nil =>
        rw [List.length_nil, h0] at hf
        cases hf
        exact absurd hb (by simp [fl])
      | cons x r => exact hgn (by simp)
    · intro hb
      repeat (first | refine w_seq ?_ | refine w_set ?_ | refine w_rt ?_ | refine w_drop ?_ | refine w_frz ?_ | refine w_multi ?_ | refine w_mcons ?_ | refine w_mnil ?_ | refine w_asg ?_ | refine w_hval ?_ | refine w_var rfl ?_ | refine w_c ?_ | refine w_hslot rfl ?_ | refine w_acons ?_ | refine w_anil ?_ | refine w_op ?_ | refine w_un ?_ | refine w_fn ?_ | refine w_tup ?_ | refine w_lst ?_ | refine w_avals ?_ | refine w_alooks ?_ | refine w_callK ?_ | refine w_cut ?_ | refine w_pint ?_ | refine w_pno ?_ | refine w_bof ?_ | refine w_nx ?_ | refine w_ret ?_ | refine xT rfl (fitk (Nat.le_of_ble_eq_true rfl)) ?_ | refine x3 rfl rfl rfl ?_ | refine x2 rfl rfl ?_ | refine x2L rfl rfl ?_ | refine ⟨_, rfl, ?_⟩)
      refine ⟨gs ++ [done.length], _, _, rfl, by simp, ?_, by simp; omega, fun _ => by simp⟩
      intro g hg2
      rcases List.mem_append.mp hg2 with z | z
      · exact hg g z
      · rw [List.mem_singleton.mp z]
        refine ⟨f, hf, fun z => ?_⟩
        rw [z] at hb
        cases hb
  rintro ys m2 ⟨gs, a7, a8, rfl, rfl, hg, hgl, hgn⟩
  rw [enum_len] at hgl
  have hne : gs ≠ [] := hgn (by
    intro z
    have := congrArg List.length z
    rw [enum_len] at this
    rw [List.length_eq_zero_iff.mp this] at h0
    cases h0)
  refine ⟨fitk (by rw [List.length_map]; omega), ?_⟩
  show W _ (mR n fs shape t c mks T (some (.lst (gs.map fun g => D.int (g : Nat)))) none none none none none none none none none st) _
  have cl : ∀ lo hi, (cutD (gs.map fun g => D.int (g : Nat)) lo hi).length ≤ 10 := fun lo hi => Nat.le_trans cut_len (by rw [List.length_map]; omega)
  have gl : (gs.map fun g => D.int (g : Nat)).length ≤ 10 := by rw [List.length_map]; omega
  repeat (first | refine w_seq ?_ | refine w_set ?_ | refine w_rt ?_ | refine w_drop ?_ | refine w_frz ?_ | refine w_multi ?_ | refine w_mcons ?_ | refine w_mnil ?_ | refine w_asg ?_ | refine w_hval ?_ | refine w_var rfl ?_ | refine w_c ?_ | refine w_hslot rfl ?_ | refine w_acons ?_ | refine w_anil ?_ | refine w_op ?_ | refine w_un ?_ | refine w_fn ?_ | refine w_tup ?_ | refine w_lst ?_ | refine w_avals ?_ | refine w_alooks ?_ | refine w_callK ?_ | refine w_cut ?_ | refine w_pint ?_ | refine w_pno ?_ | refine w_bof ?_ | refine w_nx ?_ | refine w_ret ?_ | refine xT rfl (fitk (Nat.le_of_ble_eq_true rfl)) ?_ | refine x3 rfl rfl rfl ?_ | refine x2 rfl rfl ?_ | refine x2L rfl rfl ?_ | refine ⟨_, rfl, ?_⟩)
  refine x3 rfl rfl (addL_ok (by have := cl (some (-1)) none; omega)) ?_
  repeat (first | refine w_seq ?_ | refine w_set ?_ | refine w_rt ?_ | refine w_drop ?_ | refine w_frz ?_ | refine w_multi ?_ | refine w_mcons ?_ | refine w_mnil ?_ | refine w_asg ?_ | refine w_hval ?_ | refine w_var rfl ?_ | refine w_c ?_ | refine w_hslot rfl ?_ | refine w_acons ?_ | refine w_anil ?_ | refine w_op ?_ | refine w_un ?_ | refine w_fn ?_ | refine w_tup ?_ | refine w_lst ?_ | refine w_avals ?_ | refine w_alooks ?_ | refine w_callK ?_ | refine w_cut ?_ | refine w_pint ?_ | refine w_pno ?_ | refine w_bof ?_ | refine w_nx ?_ | refine w_ret ?_ | refine xT rfl (fitk (Nat.le_of_ble_eq_true rfl)) ?_ | refine x3 rfl rfl rfl ?_ | refine x2 rfl rfl ?_ | refine x2L rfl rfl ?_ | refine ⟨_, rfl, ?_⟩)
  refine x3 rfl rfl (addL_ok (by have := cl (some (-1)) none; have := cl (some 1) none; rw [List.length_append]; omega)) ?_
  repeat (first | refine w_seq ?_ | refine w_set ?_ | refine w_rt ?_ | refine w_drop ?_ | refine w_frz ?_ | refine w_multi ?_ | refine w_mcons ?_ | refine w_mnil ?_ | refine w_asg ?_ | refine w_hval ?_ | refine w_var rfl ?_ | refine w_c ?_ | refine w_hslot rfl ?_ | refine w_acons ?_ | refine w_anil ?_ | refine w_op ?_ | refine w_un ?_ | refine w_fn ?_ | refine w_tup ?_ | refine w_lst ?_ | refine w_avals ?_ | refine w_alooks ?_ | refine w_callK ?_ | refine w_cut ?_ | refine w_pint ?_ | refine w_pno ?_ | refine w_bof ?_ | refine w_nx ?_ | refine w_ret ?_ | refine xT rfl (fitk (Nat.le_of_ble_eq_true rfl)) ?_ | refine x3 rfl rfl rfl ?_ | refine x2 rfl rfl ?_ | refine x2L rfl rfl ?_ | refine ⟨_, rfl, ?_⟩)
  refine fs_pickL h (by omega) (by simp [hne]) (by have := cl (some (-1)) none; have := cl (some 1) none; rw [List.length_append, List.length_append]; omega) fun d st1 hd h1 => ?_
  obtain ⟨g, hgm, rfl⟩ : ∃ g ∈ gs, d = .int (g : Nat) := by
    have : d ∈ gs.map fun g => D.int (g : Nat) := by
      rcases List.mem_append.mp hd with z | z
      · rcases List.mem_append.mp z with z | z
        · exact z
        · exact cut_mem z
      · exact cut_mem z
    obtain ⟨g, hg2, e⟩ := List.mem_map.mp this
    exact ⟨g, hg2, e.symm⟩
  obtain ⟨f, hf, hfn⟩ := hg g hgm
  have hfR := hfs f (List.mem_of_getElem? hf)
  have hfs2 := fr_small f hfR
  have hflT := fl_small T hT f hfR
  show W _ (mR n fs shape t c mks T (some (.lst (gs.map fun g => D.int (g : Nat)))) (some (.int (g : Nat))) none none none none none none none none st1) _
  repeat (first | refine w_seq ?_ | refine w_set ?_ | refine w_rt ?_ | refine w_drop ?_ | refine w_frz ?_ | refine w_multi ?_ | refine w_mcons ?_ | refine w_mnil ?_ | refine w_asg ?_ | refine w_hval ?_ | refine w_var rfl ?_ | refine w_c ?_ | refine w_hslot rfl ?_ | refine w_acons ?_ | refine w_anil ?_ | refine w_op ?_ | refine w_un ?_ | refine w_fn ?_ | refine w_tup ?_ | refine w_lst ?_ | refine w_avals ?_ | refine w_alooks ?_ | refine w_callK ?_ | refine w_cut ?_ | refine w_pint ?_ | refine w_pno ?_ | refine w_bof ?_ | refine w_nx ?_ | refine w_ret ?_ | refine xT rfl (fitk (Nat.le_of_ble_eq_true rfl)) ?_ | refine x3 rfl rfl rfl ?_ | refine x2 rfl rfl ?_ | refine x2L rfl rfl ?_ | refine ⟨_, rfl, ?_⟩)
  refine x3 rfl rfl (ixL hf) ?_
  repeat (first | refine w_seq ?_ | refine w_set ?_ | refine w_rt ?_ | refine w_drop ?_ | refine w_frz ?_ | refine w_multi ?_ | refine w_mcons ?_ | refine w_mnil ?_ | refine w_asg ?_ | refine w_hval ?_ | refine w_var rfl ?_ | refine w_c ?_ | refine w_hslot rfl ?_ | refine w_acons ?_ | refine w_anil ?_ | refine w_op ?_ | refine w_un ?_ | refine w_fn ?_ | refine w_tup ?_ | refine w_lst ?_ | refine w_avals ?_ | refine w_alooks ?_ | refine w_callK ?_ | refine w_cut ?_ | refine w_pint ?_ | refine w_pno ?_ | refine w_bof ?_ | refine w_nx ?_ | refine w_ret ?_ | refine xT rfl (fitk (Nat.le_of_ble_eq_true rfl)) ?_ | refine x3 rfl rfl rfl ?_ | refine x2 rfl rfl ?_ | refine x2L rfl rfl ?_ | refine ⟨_, rfl, ?_⟩)
  refine fs_of (fills_ok _ T hT f hfR) ?_
  repeat (first | refine w_seq ?_ | refine w_set ?_ | refine w_rt ?_ | refine w_drop ?_ | refine w_frz ?_ | refine w_multi ?_ | refine w_mcons ?_ | refine w_mnil ?_ | refine w_asg ?_ | refine w_hval ?_ | refine w_var rfl ?_ | refine w_c ?_ | refine w_hslot rfl ?_ | refine w_acons ?_ | refine w_anil ?_ | refine w_op ?_ | refine w_un ?_ | refine w_fn ?_ | refine w_tup ?_ | refine w_lst ?_ | refine w_avals ?_ | refine w_alooks ?_ | refine w_callK ?_ | refine w_cut ?_ | refine w_pint ?_ | refine w_pno ?_ | refine w_bof ?_ | refine w_nx ?_ | refine w_ret ?_ | refine xT rfl (fitk (Nat.le_of_ble_eq_true rfl)) ?_ | refine x3 rfl rfl rfl ?_ | refine x2 rfl rfl ?_ | refine x2L rfl rfl ?_ | refine ⟨_, rfl, ?_⟩)
  refine fs_pickL h1 (by omega) (by simp [hfn]) (by rw [List.length_map]; omega) fun d st2 hd h2 => ?_
  obtain ⟨row, hrow, rfl⟩ := List.mem_map.mp hd
  obtain ⟨hrl, hrk⟩ := hflT.2 row hrow
  show W _ (mR n fs shape t c mks T (some (.lst (gs.map fun g => D.int (g : Nat)))) (some (.int (g : Nat))) none (some (rowD row)) none none none none none none st2) _
  repeat (first | refine w_seq ?_ | refine w_set ?_ | refine w_rt ?_ | refine w_drop ?_ | refine w_frz ?_ | refine w_multi ?_ | refine w_mcons ?_ | refine w_mnil ?_ | refine w_asg ?_ | refine w_hval ?_ | refine w_var rfl ?_ | refine w_c ?_ | refine w_hslot rfl ?_ | refine w_acons ?_ | refine w_anil ?_ | refine w_op ?_ | refine w_un ?_ | refine w_fn ?_ | refine w_tup ?_ | refine w_lst ?_ | refine w_avals ?_ | refine w_alooks ?_ | refine w_callK ?_ | refine w_cut ?_ | refine w_pint ?_ | refine w_pno ?_ | refine w_bof ?_ | refine w_nx ?_ | refine w_ret ?_ | refine xT rfl (fitk (Nat.le_of_ble_eq_true rfl)) ?_ | refine x3 rfl rfl rfl ?_ | refine x2 rfl rfl ?_ | refine x2L rfl rfl ?_ | refine ⟨_, rfl, ?_⟩)
  refine w_lc (fun _ done ys m => ∃ (a11 a12 : Option D) (st : Sto), m = mR n fs shape t c mks T (some (.lst (gs.map fun g => D.int (g : Nat)))) (some (.int (g : Nat))) none (some (rowD row)) none a11 a12 none none none st ∧ (∀ y ∈ ys, Kd 3 y) ∧ ys.length ≤ done.length ∧ HB st n (N + 2 + 2 * done.length)) ?_
  refine w_izip ?_
  repeat (first | refine w_seq ?_ | refine w_set ?_ | refine w_rt ?_ | refine w_drop ?_ | refine w_frz ?_ | refine w_multi ?_ | refine w_mcons ?_ | refine w_mnil ?_ | refine w_asg ?_ | refine w_hval ?_ | refine w_var rfl ?_ | refine w_c ?_ | refine w_hslot rfl ?_ | refine w_acons ?_ | refine w_anil ?_ | refine w_op ?_ | refine w_un ?_ | refine w_fn ?_ | refine w_tup ?_ | refine w_lst ?_ | refine w_avals ?_ | refine w_alooks ?_ | refine w_callK ?_ | refine w_cut ?_ | refine w_pint ?_ | refine w_pno ?_ | refine w_bof ?_ | refine w_nx ?_ | refine w_ret ?_ | refine xT rfl (fitk (Nat.le_of_ble_eq_true rfl)) ?_ | refine x3 rfl rfl rfl ?_ | refine x2 rfl rfl ?_ | refine x2L rfl rfl ?_ | refine ⟨_, rfl, ?_⟩)
  refine x3 rfl rfl (ixL hf) ?_
  repeat (first | refine w_seq ?_ | refine w_set ?_ | refine w_rt ?_ | refine w_drop ?_ | refine w_frz ?_ | refine w_multi ?_ | refine w_mcons ?_ | refine w_mnil ?_ | refine w_asg ?_ | refine w_hval ?_ | refine w_var rfl ?_ | refine w_c ?_ | refine w_hslot rfl ?_ | refine w_acons ?_ | refine w_anil ?_ | refine w_op ?_ | refine w_un ?_ | refine w_fn ?_ | refine w_tup ?_ | refine w_lst ?_ | refine w_avals ?_ | refine w_alooks ?_ | refine w_callK ?_ | refine w_cut ?_ | refine w_pint ?_ | refine w_pno ?_ | refine w_bof ?_ | refine w_nx ?_ | refine w_ret ?_ | refine xT rfl (fitk (Nat.le_of_ble_eq_true rfl)) ?_ | refine x3 rfl rfl rfl ?_ | refine x2 rfl rfl ?_ | refine x2L rfl rfl ?_ | refine ⟨_, rfl, ?_⟩)
  refine ⟨_, _, _, _, rfl, .inr rfl, .inr rfl, ⟨none, none, st2, rfl, by simp, by simp, h2⟩, ?_, ?_⟩
  · rintro done d rest ys m2 he ⟨a11, a12, st3, rfl, hy, hyl, hb⟩
    obtain ⟨x, y, hx, hy2, rfl⟩ := zip_at he
    rw [List.getElem?_map, Option.map_eq_some_iff] at hx hy2
    obtain ⟨hh, hx, rfl⟩ := hx
    obtain ⟨kk, hy2, rfl⟩ := hy2
    have hd2 : done.length < f.length := (List.getElem?_eq_some_iff.mp hy2).1
    obtain ⟨q, hq, rfl, hql⟩ := hrk ⟨done.length, by omega⟩ hh hx kk hy2
    have hqs := hTs.2 q hq
    have hk2 := hfs2.2 kk (List.mem_of_getElem? hy2)
    refine ⟨_, rfl, w_ret ⟨(fun z => nomatch z), fun _ => ?_⟩⟩
    repeat (first | refine w_seq ?_ | refine w_set ?_ | refine w_rt ?_ | refine w_drop ?_ | refine w_frz ?_ | refine w_multi ?_ | refine w_mcons ?_ | refine w_mnil ?_ | refine w_asg ?_ | refine w_hval ?_ | refine w_var rfl ?_ | refine w_c ?_ | refine w_hslot rfl ?_ | refine w_acons ?_ | refine w_anil ?_ | refine w_op ?_ | refine w_un ?_ | refine w_fn ?_ | refine w_tup ?_ | refine w_lst ?_ | refine w_avals ?_ | refine w_alooks ?_ | refine w_callK ?_ | refine w_cut ?_ | refine w_pint ?_ | refine w_pno ?_ | refine w_bof ?_ | refine w_nx ?_ | refine w_ret ?_ | refine xT rfl (fitk (Nat.le_of_ble_eq_true rfl)) ?_ | refine x3 rfl rfl rfl ?_ | refine x2 rfl rfl ?_ | refine x2L rfl rfl ?_ | refine ⟨_, rfl, ?_⟩)
    refine x3 rfl rfl (look_ok T hT q hq) ?_
    repeat (first | refine w_seq ?_ | refine w_set ?_ | refine w_rt ?_ | refine w_drop ?_ | refine w_frz ?_ | refine w_multi ?_ | refine w_mcons ?_ | refine w_mnil ?_ | refine w_asg ?_ | refine w_hval ?_ | refine w_var rfl ?_ | refine w_c ?_ | refine w_hslot rfl ?_ | refine w_acons ?_ | refine w_anil ?_ | refine w_op ?_ | refine w_un ?_ | refine w_fn ?_ | refine w_tup ?_ | refine w_lst ?_ | refine w_avals ?_ | refine w_alooks ?_ | refine w_callK ?_ | refine w_cut ?_ | refine w_pint ?_ | refine w_pno ?_ | refine w_bof ?_ | refine w_nx ?_ | refine w_ret ?_ | refine xT rfl (fitk (Nat.le_of_ble_eq_true rfl)) ?_ | refine x3 rfl rfl rfl ?_ | refine x2 rfl rfl ?_ | refine x2L rfl rfl ?_ | refine ⟨_, rfl, ?_⟩)
    refine some_ok (k := kk) hb (by omega) (by rw [List.length_map]; exact hql) (by rw [List.length_map]; omega) fun zs st4 hz hzl h4 => ?_
    repeat (first | refine w_seq ?_ | refine w_set ?_ | refine w_rt ?_ | refine w_drop ?_ | refine w_frz ?_ | refine w_multi ?_ | refine w_mcons ?_ | refine w_mnil ?_ | refine w_asg ?_ | refine w_hval ?_ | refine w_var rfl ?_ | refine w_c ?_ | refine w_hslot rfl ?_ | refine w_acons ?_ | refine w_anil ?_ | refine w_op ?_ | refine w_un ?_ | refine w_fn ?_ | refine w_tup ?_ | refine w_lst ?_ | refine w_avals ?_ | refine w_alooks ?_ | refine w_callK ?_ | refine w_cut ?_ | refine w_pint ?_ | refine w_pno ?_ | refine w_bof ?_ | refine w_nx ?_ | refine w_ret ?_ | refine xT rfl (fitk (Nat.le_of_ble_eq_true rfl)) ?_ | refine x3 rfl rfl rfl ?_ | refine x2 rfl rfl ?_ | refine x2L rfl rfl ?_ | refine ⟨_, rfl, ?_⟩)
    refine ⟨_, _, st4, rfl, ?_, by simp; omega, h4.mono (by rw [List.length_append, List.length_singleton]; omega)⟩
    intro y hy3
    rcases List.mem_append.mp hy3 with z | z
    · exact hy y z
    · rw [List.mem_singleton.mp z]
      refine Kd.tup fun d hd => ?_
      rw [List.mem_reverse] at hd
      simp only [List.mem_cons, List.not_mem_nil, or_false] at hd
      rcases hd with rfl | rfl
      rotate_left
      · exact (kd_hD ⟨by omega, by omega⟩).mono (by decide)
      · refine Kd.tup fun d hd => ?_
        obtain ⟨cc, hcc, rfl⟩ := List.mem_map.mp (hz d hd)
        have := hqs.2.2 cc hcc
        exact kd_qD ⟨by omega, by omega⟩ ⟨by omega, by omega⟩
  rintro fi m2 ⟨a11, a12, st3, rfl, hfi, hfil, hb⟩
  have zl : (zipD (row.map hD) (f.map fun n => D.int (n : Nat))).length ≤ 2 := Nat.le_trans zip_len (by rw [List.length_map]; omega)
  refine ⟨fitk (by omega), ?_⟩
  have h3 : HB st3 n (N + 6) := hb.mono (by omega)
  show W _ (mR n fs shape t c mks T (some (.lst (gs.map fun g => D.int (g : Nat)))) (some (.int (g : Nat))) none (some (rowD row)) (some (.lst fi)) none none none none none st3) _
  repeat (first | refine w_seq ?_ | refine w_set ?_ | refine w_rt ?_ | refine w_drop ?_ | refine w_frz ?_ | refine w_multi ?_ | refine w_mcons ?_ | refine w_mnil ?_ | refine w_asg ?_ | refine w_hval ?_ | refine w_var rfl ?_ | refine w_c ?_ | refine w_hslot rfl ?_ | refine w_acons ?_ | refine w_anil ?_ | refine w_op ?_ | refine w_un ?_ | refine w_fn ?_ | refine w_tup ?_ | refine w_lst ?_ | refine w_avals ?_ | refine w_alooks ?_ | refine w_callK ?_ | refine w_cut ?_ | refine w_pint ?_ | refine w_pno ?_ | refine w_bof ?_ | refine w_nx ?_ | refine w_ret ?_ | refine xT rfl (fitk (Nat.le_of_ble_eq_true rfl)) ?_ | refine x3 rfl rfl rfl ?_ | refine x2 rfl rfl ?_ | refine x2L rfl rfl ?_ | refine ⟨_, rfl, ?_⟩)
  refine w_for (fun _ done m => ∃ (ev : List D) (a11 : Option D), m = mR n fs shape t c mks T (some (.lst (gs.map fun g => D.int (g : Nat)))) (some (.int (g : Nat))) none (some (rowD row)) (some (.lst fi)) a11 none (some (.lst ev)) none none st3 ∧ (∀ y ∈ ev, Kd 1 y) ∧ ev.length ≤ 5 * done.length) ?_
  refine w_iseq ?_
  repeat (first | refine w_seq ?_ | refine w_set ?_ | refine w_rt ?_ | refine w_drop ?_ | refine w_frz ?_ | refine w_multi ?_ | refine w_mcons ?_ | refine w_mnil ?_ | refine w_asg ?_ | refine w_hval ?_ | refine w_var rfl ?_ | refine w_c ?_ | refine w_hslot rfl ?_ | refine w_acons ?_ | refine w_anil ?_ | refine w_op ?_ | refine w_un ?_ | refine w_fn ?_ | refine w_tup ?_ | refine w_lst ?_ | refine w_avals ?_ | refine w_alooks ?_ | refine w_callK ?_ | refine w_cut ?_ | refine w_pint ?_ | refine w_pno ?_ | refine w_bof ?_ | refine w_nx ?_ | refine w_ret ?_ | refine xT rfl (fitk (Nat.le_of_ble_eq_true rfl)) ?_ | refine x3 rfl rfl rfl ?_ | refine x2 rfl rfl ?_ | refine x2L rfl rfl ?_ | refine ⟨_, rfl, ?_⟩)
  refine x2L rfl (keys_ok T hT) ?_
  have kl : (srtI (T.map (·.1))).length ≤ 3 := (by decide +kernel : ∀ t ∈ AT, (srtI (t.map (·.1))).length ≤ 3) T hT
  refine ⟨_, .inl rfl, ⟨[], none, rfl, by simp, by simp⟩, ?_, ?_⟩
  · rintro done d rest m2 he ⟨ev, a11, rfl, hev, hel⟩
    have hdl : done.length < 3 := by
      have := congrArg List.length he
      rw [List.length_append, List.length_cons, List.length_map] at this
      omega
    obtain ⟨hh, hk, rfl⟩ : ∃ hh ∈ srtI (T.map (·.1)), d = hD hh := by
      have : d ∈ (srtI (T.map (·.1))).map hD := by rw [← he]; simp
      obtain ⟨x, hx, e⟩ := List.mem_map.mp this
      exact ⟨x, hx, e.symm⟩
    obtain ⟨q, hq, rfl⟩ := keys_mem T hT hh hk
    have hqs := hTs.2 q hq
    refine ⟨_, rfl, ?_⟩
    repeat (first | refine w_seq ?_ | refine w_set ?_ | refine w_rt ?_ | refine w_drop ?_ | refine w_frz ?_ | refine w_multi ?_ | refine w_mcons ?_ | refine w_mnil ?_ | refine w_asg ?_ | refine w_hval ?_ | refine w_var rfl ?_ | refine w_c ?_ | refine w_hslot rfl ?_ | refine w_acons ?_ | refine w_anil ?_ | refine w_op ?_ | refine w_un ?_ | refine w_fn ?_ | refine w_tup ?_ | refine w_lst ?_ | refine w_avals ?_ | refine w_alooks ?_ | refine w_callK ?_ | refine w_cut ?_ | refine w_pint ?_ | refine w_pno ?_ | refine w_bof ?_ | refine w_nx ?_ | refine w_ret ?_ | refine xT rfl (fitk (Nat.le_of_ble_eq_true rfl)) ?_ | refine x3 rfl rfl rfl ?_ | refine x2 rfl rfl ?_ | refine x2L rfl rfl ?_ | refine ⟨_, rfl, ?_⟩)
    refine w_mut rfl ?_
    repeat (first | refine w_seq ?_ | refine w_set ?_ | refine w_rt ?_ | refine w_drop ?_ | refine w_frz ?_ | refine w_multi ?_ | refine w_mcons ?_ | refine w_mnil ?_ | refine w_asg ?_ | refine w_hval ?_ | refine w_var rfl ?_ | refine w_c ?_ | refine w_hslot rfl ?_ | refine w_acons ?_ | refine w_anil ?_ | refine w_op ?_ | refine w_un ?_ | refine w_fn ?_ | refine w_tup ?_ | refine w_lst ?_ | refine w_avals ?_ | refine w_alooks ?_ | refine w_callK ?_ | refine w_cut ?_ | refine w_pint ?_ | refine w_pno ?_ | refine w_bof ?_ | refine w_nx ?_ | refine w_ret ?_ | refine xT rfl (fitk (Nat.le_of_ble_eq_true rfl)) ?_ | refine x3 rfl rfl rfl ?_ | refine x2 rfl rfl ?_ | refine x2L rfl rfl ?_ | refine ⟨_, rfl, ?_⟩)
    refine x3 rfl rfl (look_ok T hT q hq) ?_
    refine x3 rfl rfl (addL_ok (xs := [hD q.1]) (by rw [List.length_map, List.length_singleton]; omega)) ?_
    repeat (first | refine w_seq ?_ | refine w_set ?_ | refine w_rt ?_ | refine w_drop ?_ | refine w_frz ?_ | refine w_multi ?_ | refine w_mcons ?_ | refine w_mnil ?_ | refine w_asg ?_ | refine w_hval ?_ | refine w_var rfl ?_ | refine w_c ?_ | refine w_hslot rfl ?_ | refine w_acons ?_ | refine w_anil ?_ | refine w_op ?_ | refine w_un ?_ | refine w_fn ?_ | refine w_tup ?_ | refine w_lst ?_ | refine w_avals ?_ | refine w_alooks ?_ | refine w_callK ?_ | refine w_cut ?_ | refine w_pint ?_ | refine w_pno ?_ | refine w_bof ?_ | refine w_nx ?_ | refine w_ret ?_ | refine xT rfl (fitk (Nat.le_of_ble_eq_true rfl)) ?_ | refine x3 rfl rfl rfl ?_ | refine x2 rfl rfl ?_ | refine x2L rfl rfl ?_ | refine ⟨_, rfl, ?_⟩)
    refine ⟨ev, _, _, rfl, extend_ok (by rw [List.length_append, List.length_map, List.length_singleton]; omega), ?_⟩
    refine ⟨_, _, rfl, ?_, by simp only [List.length_append, List.length_map, List.length_singleton]; omega⟩
    intro y hy3
    rcases List.mem_append.mp hy3 with z | z
    · exact hev y z
    · rcases List.mem_append.mp z with z | z
      · rw [List.mem_singleton.mp z]
        exact kd_hD ⟨by omega, by omega⟩
      · obtain ⟨cc, hcc, rfl⟩ := List.mem_map.mp z
        have := hqs.2.2 cc hcc
        exact kd_qD ⟨by omega, by omega⟩ ⟨by omega, by omega⟩
  rintro m2 ⟨ev, a11, rfl, hev, hel⟩
  rw [List.length_map] at hel
  show W _ (mR n fs shape t c mks T (some (.lst (gs.map fun g => D.int (g : Nat)))) (some (.int (g : Nat))) none (some (rowD row)) (some (.lst fi)) a11 none (some (.lst ev)) none none st3) _
  repeat (first | refine w_seq ?_ | refine w_set ?_ | refine w_rt ?_ | refine w_drop ?_ | refine w_frz ?_ | refine w_multi ?_ | refine w_mcons ?_ | refine w_mnil ?_ | refine w_asg ?_ | refine w_hval ?_ | refine w_var rfl ?_ | refine w_c ?_ | refine w_hslot rfl ?_ | refine w_acons ?_ | refine w_anil ?_ | refine w_op ?_ | refine w_un ?_ | refine w_fn ?_ | refine w_tup ?_ | refine w_lst ?_ | refine w_avals ?_ | refine w_alooks ?_ | refine w_callK ?_ | refine w_cut ?_ | refine w_pint ?_ | refine w_pno ?_ | refine w_bof ?_ | refine w_nx ?_ | refine w_ret ?_ | refine xT rfl (fitk (Nat.le_of_ble_eq_true rfl)) ?_ | refine x3 rfl rfl rfl ?_ | refine x2 rfl rfl ?_ | refine x2L rfl rfl ?_ | refine ⟨_, rfl, ?_⟩)
  obtain ⟨cb, ecb, hcb⟩ := kd_ne (Kd.lst hev) (Kd.lst (n := 0) (ds := []) (by simp))
  refine w_lc (fun _ done ys m => ∃ (a15 : Option D) (st : Sto), m = mR n fs shape t c mks T (some (.lst (gs.map fun g => D.int (g : Nat)))) (some (.int (g : Nat))) none (some (rowD row)) (some (.lst fi)) a11 none (some (.lst ev)) none a15 st ∧ (∀ y ∈ ys, Kd 1 y) ∧ ys.length = done.length ∧ HB st n (N + 7 + done.length)) ?_
  refine w_irange1 ?_
  repeat (first | refine w_seq ?_ | refine w_set ?_ | refine w_rt ?_ | refine w_drop ?_ | refine w_frz ?_ | refine w_multi ?_ | refine w_mcons ?_ | refine w_mnil ?_ | refine w_asg ?_ | refine w_hval ?_ | refine w_var rfl ?_ | refine w_c ?_ | refine w_hslot rfl ?_ | refine w_acons ?_ | refine w_anil ?_ | refine w_op ?_ | refine w_un ?_ | refine w_fn ?_ | refine w_tup ?_ | refine w_lst ?_ | refine w_avals ?_ | refine w_alooks ?_ | refine w_callK ?_ | refine w_cut ?_ | refine w_pint ?_ | refine w_pno ?_ | refine w_bof ?_ | refine w_nx ?_ | refine w_ret ?_ | refine xT rfl (fitk (Nat.le_of_ble_eq_true rfl)) ?_ | refine x3 rfl rfl rfl ?_ | refine x2 rfl rfl ?_ | refine x2L rfl rfl ?_ | refine ⟨_, rfl, ?_⟩)
  refine fs_take (many := 3) h3 (by omega) (by decide) (by decide) fun r st4 r0 r1 h4 => ?_
  repeat (first | refine w_seq ?_ | refine w_set ?_ | refine w_rt ?_ | refine w_drop ?_ | refine w_frz ?_ | refine w_multi ?_ | refine w_mcons ?_ | refine w_mnil ?_ | refine w_asg ?_ | refine w_hval ?_ | refine w_var rfl ?_ | refine w_c ?_ | refine w_hslot rfl ?_ | refine w_acons ?_ | refine w_anil ?_ | refine w_op ?_ | refine w_un ?_ | refine w_fn ?_ | refine w_tup ?_ | refine w_lst ?_ | refine w_avals ?_ | refine w_alooks ?_ | refine w_callK ?_ | refine w_cut ?_ | refine w_pint ?_ | refine w_pno ?_ | refine w_bof ?_ | refine w_nx ?_ | refine w_ret ?_ | refine xT rfl (fitk (Nat.le_of_ble_eq_true rfl)) ?_ | refine x3 rfl rfl rfl ?_ | refine x2 rfl rfl ?_ | refine x2L rfl rfl ?_ | refine ⟨_, rfl, ?_⟩)
  refine x3 rfl rfl ecb ?_
  repeat (first | refine w_seq ?_ | refine w_set ?_ | refine w_rt ?_ | refine w_drop ?_ | refine w_frz ?_ | refine w_multi ?_ | refine w_mcons ?_ | refine w_mnil ?_ | refine w_asg ?_ | refine w_hval ?_ | refine w_var rfl ?_ | refine w_c ?_ | refine w_hslot rfl ?_ | refine w_acons ?_ | refine w_anil ?_ | refine w_op ?_ | refine w_un ?_ | refine w_fn ?_ | refine w_tup ?_ | refine w_lst ?_ | refine w_avals ?_ | refine w_alooks ?_ | refine w_callK ?_ | refine w_cut ?_ | refine w_pint ?_ | refine w_pno ?_ | refine w_bof ?_ | refine w_nx ?_ | refine w_ret ?_ | refine xT rfl (fitk (Nat.le_of_ble_eq_true rfl)) ?_ | refine x3 rfl rfl rfl ?_ | refine x2 rfl rfl ?_ | refine x2L rfl rfl ?_ | refine ⟨_, rfl, ?_⟩)
  have big := p200
  refine x3 rfl rfl (gMul_ok (by omega) (by omega) (by split <;> omega) (by split <;> omega)) ?_
  have hrb : 0 ≤ r * (if cb = true then 1 else 0) ∧ r * (if cb = true then 1 else 0) < 3 := by split <;> omega
  repeat (first | refine w_seq ?_ | refine w_set ?_ | refine w_rt ?_ | refine w_drop ?_ | refine w_frz ?_ | refine w_multi ?_ | refine w_mcons ?_ | refine w_mnil ?_ | refine w_asg ?_ | refine w_hval ?_ | refine w_var rfl ?_ | refine w_c ?_ | refine w_hslot rfl ?_ | refine w_acons ?_ | refine w_anil ?_ | refine w_op ?_ | refine w_un ?_ | refine w_fn ?_ | refine w_tup ?_ | refine w_lst ?_ | refine w_avals ?_ | refine w_alooks ?_ | refine w_callK ?_ | refine w_cut ?_ | refine w_pint ?_ | refine w_pno ?_ | refine w_bof ?_ | refine w_nx ?_ | refine w_ret ?_ | refine xT rfl (fitk (Nat.le_of_ble_eq_true rfl)) ?_ | refine x3 rfl rfl rfl ?_ | refine x2 rfl rfl ?_ | refine x2L rfl rfl ?_ | refine ⟨_, rfl, ?_⟩)
  refine ⟨small_ok (by omega) (by omega), ⟨none, st4, rfl, by simp, rfl, h4⟩, ?_, ?_⟩
  · rintro done d rest ys m2 he ⟨a15, st5, rfl, hy, hyl, hb⟩
    obtain ⟨hlt, rfl⟩ := range_at he
    have hevn : ev ≠ [] := by
      intro z
      subst z
      have : cb = false := hcb.mpr rfl
      subst this
      simp at hlt
    refine ⟨_, rfl, w_ret ⟨(fun z => nomatch z), fun _ => ?_⟩⟩
    repeat (first | refine w_seq ?_ | refine w_set ?_ | refine w_rt ?_ | refine w_drop ?_ | refine w_frz ?_ | refine w_multi ?_ | refine w_mcons ?_ | refine w_mnil ?_ | refine w_asg ?_ | refine w_hval ?_ | refine w_var rfl ?_ | refine w_c ?_ | refine w_hslot rfl ?_ | refine w_acons ?_ | refine w_anil ?_ | refine w_op ?_ | refine w_un ?_ | refine w_fn ?_ | refine w_tup ?_ | refine w_lst ?_ | refine w_avals ?_ | refine w_alooks ?_ | refine w_callK ?_ | refine w_cut ?_ | refine w_pint ?_ | refine w_pno ?_ | refine w_bof ?_ | refine w_nx ?_ | refine w_ret ?_ | refine xT rfl (fitk (Nat.le_of_ble_eq_true rfl)) ?_ | refine x3 rfl rfl rfl ?_ | refine x2 rfl rfl ?_ | refine x2L rfl rfl ?_ | refine ⟨_, rfl, ?_⟩)
    refine fs_pickL hb (by omega) hevn (by omega) fun d st6 hd h6 => ?_
    refine ⟨_, st6, rfl, ?_, by simp [hyl], by rw [List.length_append]; exact h6⟩
    intro y hy3
    rcases List.mem_append.mp hy3 with z | z
    · exact hy y z
    · rw [List.mem_singleton.mp z]; exact hev d hd
  rintro sa m2 ⟨a15, st5, rfl, hsa, hsal, hb⟩
  rw [rangeD_len] at hsal hb
  refine ⟨fitk (by omega), ?_⟩
  show W _ (mR n fs shape t c mks T (some (.lst (gs.map fun g => D.int (g : Nat)))) (some (.int (g : Nat))) none (some (rowD row)) (some (.lst fi)) a11 none (some (.lst ev)) (some (.lst sa)) none st5) _
  repeat (first | refine w_seq ?_ | refine w_set ?_ | refine w_rt ?_ | refine w_drop ?_ | refine w_frz ?_ | refine w_multi ?_ | refine w_mcons ?_ | refine w_mnil ?_ | refine w_asg ?_ | refine w_hval ?_ | refine w_var rfl ?_ | refine w_c ?_ | refine w_hslot rfl ?_ | refine w_acons ?_ | refine w_anil ?_ | refine w_op ?_ | refine w_un ?_ | refine w_fn ?_ | refine w_tup ?_ | refine w_lst ?_ | refine w_avals ?_ | refine w_alooks ?_ | refine w_callK ?_ | refine w_cut ?_ | refine w_pint ?_ | refine w_pno ?_ | refine w_bof ?_ | refine w_nx ?_ | refine w_ret ?_ | refine xT rfl (fitk (Nat.le_of_ble_eq_true rfl)) ?_ | refine x3 rfl rfl rfl ?_ | refine x2 rfl rfl ?_ | refine x2L rfl rfl ?_ | refine ⟨_, rfl, ?_⟩)
  refine fs_pickT hb (by omega) hm (by omega) fun d st6 hd h6 => ?_
  repeat (first | refine w_seq ?_ | refine w_set ?_ | refine w_rt ?_ | refine w_drop ?_ | refine w_frz ?_ | refine w_multi ?_ | refine w_mcons ?_ | refine w_mnil ?_ | refine w_asg ?_ | refine w_hval ?_ | refine w_var rfl ?_ | refine w_c ?_ | refine w_hslot rfl ?_ | refine w_acons ?_ | refine w_anil ?_ | refine w_op ?_ | refine w_un ?_ | refine w_fn ?_ | refine w_tup ?_ | refine w_lst ?_ | refine w_avals ?_ | refine w_alooks ?_ | refine w_callK ?_ | refine w_cut ?_ | refine w_pint ?_ | refine w_pno ?_ | refine w_bof ?_ | refine w_nx ?_ | refine w_ret ?_ | refine xT rfl (fitk (Nat.le_of_ble_eq_true rfl)) ?_ | refine x3 rfl rfl rfl ?_ | refine x2 rfl rfl ?_ | refine x2L rfl rfl ?_ | refine ⟨_, rfl, ?_⟩)
  refine x3 rfl rfl (addT_ok (xs := [d]) (by rw [List.length_singleton]; omega)) ?_
  repeat (first | refine w_seq ?_ | refine w_set ?_ | refine w_rt ?_ | refine w_drop ?_ | refine w_frz ?_ | refine w_multi ?_ | refine w_mcons ?_ | refine w_mnil ?_ | refine w_asg ?_ | refine w_hval ?_ | refine w_var rfl ?_ | refine w_c ?_ | refine w_hslot rfl ?_ | refine w_acons ?_ | refine w_anil ?_ | refine w_op ?_ | refine w_un ?_ | refine w_fn ?_ | refine w_tup ?_ | refine w_lst ?_ | refine w_avals ?_ | refine w_alooks ?_ | refine w_callK ?_ | refine w_cut ?_ | refine w_pint ?_ | refine w_pno ?_ | refine w_bof ?_ | refine w_nx ?_ | refine w_ret ?_ | refine xT rfl (fitk (Nat.le_of_ble_eq_true rfl)) ?_ | refine x3 rfl rfl rfl ?_ | refine x2 rfl rfl ?_ | refine x2L rfl rfl ?_ | refine ⟨_, rfl, ?_⟩)
  refine k g fi ([d] ++ sa) st6 (List.getElem?_eq_some_iff.mp hf).1 ((Kd.tup hfi).mono (by decide)) ?_ (h6.mono (by omega))
  refine (Kd.tup (n := 1) fun y hy => ?_).mono (by decide)
  rcases List.mem_append.mp hy with z | z
  · rw [List.mem_singleton.mp z]; exact hmk d hd
  · exact hsa y z
end Lk10

namespace Lk10
open PySem PySem.Spec L2 MI
/-! ### lines -/
def lnD (ws : List D) (f : Fr) : List D := ws.flatMap (fun w => (cs f).map fun c => .tup [w, qD c]) ++ (jc f).map fun c => .tup [.str "join", qD c]
theorem ll1 (a : D) (st : Sto) : FR.map (fun f => fn__law_lines [.tup [a], frD f] st) = FR.map (fun f => some (.lst (lnD [a] f), st)) := by kernel_rfl
theorem ll2 (a b : D) (st : Sto) : FR.map (fun f => fn__law_lines [.tup [a, b], frD f] st) = FR.map (fun f => some (.lst (lnD [a, b] f), st)) := by kernel_rfl
theorem ll3 (a b c : D) (st : Sto) : FR.map (fun f => fn__law_lines [.tup [a, b, c], frD f] st) = FR.map (fun f => some (.lst (lnD [a, b, c] f), st)) := by kernel_rfl
theorem lo1 (a : D) (st : Sto) : FR.map (fun f => fn_lines_of [.tup [a], frD f] st) = FR.map (fun f => some (.tup (lnD [a] f), st)) := by kernel_rfl
theorem lo2 (a b : D) (st : Sto) : FR.map (fun f => fn_lines_of [.tup [a, b], frD f] st) = FR.map (fun f => some (.tup (lnD [a, b] f), st)) := by kernel_rfl
theorem lo3 (a b c : D) (st : Sto) : FR.map (fun f => fn_lines_of [.tup [a, b, c], frD f] st) = FR.map (fun f => some (.tup (lnD [a, b, c] f), st)) := by kernel_rfl
theorem len3 {α : Type} {l : List α} (h0 : 1 ≤ l.length) (h1 : l.length ≤ 3) : (∃ a, l = [a]) ∨ (∃ a b, l = [a, b]) ∨ ∃ a b c, l = [a, b, c] := by
  match l, h0, h1 with
  | [a], _, _ => exact .inl ⟨a, rfl⟩
  | [a, b], _, _ => exact .inr (.inl ⟨a, b, rfl⟩)
  | [a, b, c], _, _ => exact .inr (.inr ⟨a, b, c, rfl⟩)
theorem law_lines {ws : List D} (h0 : 1 ≤ ws.length) (h1 : ws.length ≤ 3) {f : Fr} (hf : f ∈ FR) (st : Sto) : fn__law_lines [.tup ws, frD f] st = some (.lst (lnD ws f), st) := by
  rcases len3 h0 h1 with ⟨a, rfl⟩ | ⟨a, b, rfl⟩ | ⟨a, b, c, rfl⟩
  · exact map_pt (ll1 a st) f hf
  · exact map_pt (ll2 a b st) f hf
  · exact map_pt (ll3 a b c st) f hf
theorem lines_of_ok {ws : List D} (h0 : 1 ≤ ws.length) (h1 : ws.length ≤ 3) {f : Fr} (hf : f ∈ FR) (st : Sto) : fn_lines_of [.tup ws, frD f] st = some (.tup (lnD ws f), st) := by
  rcases len3 h0 h1 with ⟨a, rfl⟩ | ⟨a, b, rfl⟩ | ⟨a, b, c, rfl⟩
  · exact map_pt (lo1 a st) f hf
  · exact map_pt (lo2 a b st) f hf
  · exact map_pt (lo3 a b c st) f hf
abbrev Ln := Str × Int × Int
abbrev lnE (l : Ln) : D := .tup [.str l.1, qD l.2]
def lnT (ws : List Str) (f : Fr) : List Ln := ws.flatMap (fun w => (cs f).map fun c => (w, c)) ++ (jc f).map fun c => (("join" : Str), c)
theorem lnD_T {ws : List Str} {f : Fr} : lnD (ws.map .str) f = (lnT ws f).map lnE := by
  unfold lnD lnT
  rw [List.map_append, List.map_map, List.flatMap_map, List.map_flatMap]
  simp only [List.map_map]
  rfl
theorem cs_small : ∀ f ∈ FR, (cs f).length ≤ 7 ∧ (jc f).length ≤ 4 ∧ (cs f).Nodup ∧ (jc f).Nodup ∧ (∀ c ∈ cs f, (-2 < c.1 ∧ c.1 < 3) ∧ (-2 < c.2 ∧ c.2 < 3)) ∧ (∀ c ∈ jc f, (-2 < c.1 ∧ c.1 < 3) ∧ (-2 < c.2 ∧ c.2 < 3)) := by decide +kernel
theorem lnT_mem {ws : List Str} {f : Fr} {l : Ln} (h : l ∈ lnT ws f) : (l.1 ∈ ws ∧ l.2 ∈ cs f) ∨ (l.1 = "join" ∧ l.2 ∈ jc f) := by
  rcases List.mem_append.mp h with h | h
  · obtain ⟨w, hw, h⟩ := List.mem_flatMap.mp h
    obtain ⟨c, hc, rfl⟩ := List.mem_map.mp h
    exact .inl ⟨hw, hc⟩
  · obtain ⟨c, hc, rfl⟩ := List.mem_map.mp h
    exact .inr ⟨rfl, hc⟩
theorem flat_len {f : Fr} (hf : f ∈ FR) : ∀ (ws : List Str), (ws.flatMap (fun w => (cs f).map fun c => (w, c))).length ≤ 7 * ws.length
  | [] => by simp
  | w :: ws => by
    rw [List.flatMap_cons, List.length_append, List.length_map, List.length_cons]
    have := flat_len hf ws
    have := (cs_small f hf).1
    omega
theorem lnT_len {ws : List Str} {f : Fr} (hf : f ∈ FR) (h1 : ws.length ≤ 3) : (lnT ws f).length ≤ 25 := by
  unfold lnT
  rw [List.length_append, List.length_map]
  have := flat_len hf ws
  have := (cs_small f hf).2.1
  omega
theorem flat_nd {f : Fr} (hf : f ∈ FR) : ∀ {ws : List Str}, ws.Nodup → (ws.flatMap (fun w => (cs f).map fun c => ((w, c) : Ln))).Nodup
  | [], _ => by simp
  | w :: ws, h => by
    rw [List.nodup_cons] at h
    rw [List.flatMap_cons, List.nodup_append]
    refine ⟨List.pairwise_map.mpr (List.Pairwise.imp (fun {a b} (hab : a ≠ b) (z : (w, a) = (w, b)) => hab (Prod.mk.inj z).2) (cs_small f hf).2.2.1), flat_nd hf h.2, fun a ha b hb z => ?_⟩
    subst z
    obtain ⟨c, _, rfl⟩ := List.mem_map.mp ha
    obtain ⟨w2, hw2, hb⟩ := List.mem_flatMap.mp hb
    obtain ⟨c2, _, e⟩ := List.mem_map.mp hb
    cases e
    exact h.1 hw2
theorem lnT_nd {ws : List Str} {f : Fr} (hf : f ∈ FR) (hw : Wd ws) : (lnT ws f).Nodup := by
  unfold lnT
  rw [List.nodup_append]
  refine ⟨flat_nd hf hw.nd, List.pairwise_map.mpr (List.Pairwise.imp (fun {a b} (hab : a ≠ b) (z : (("join" : Str), a) = (("join" : Str), b)) => hab (Prod.mk.inj z).2) (cs_small f hf).2.2.2.1), fun a ha b hb z => ?_⟩
  subst z
  obtain ⟨c, _, rfl⟩ := List.mem_map.mp hb
  obtain ⟨w2, hw2, ha⟩ := List.mem_flatMap.mp ha
  obtain ⟨c2, _, e⟩ := List.mem_map.mp ha
  exact hw.nj _ hw2 (Prod.mk.inj e).1
theorem low_join : lowS "join" = true := by kernel_rfl
theorem low_yes : lowS "yes" = true := by kernel_rfl
theorem low_no : lowS "no" = true := by kernel_rfl
theorem lnE_kd {ws : List Str} {f : Fr} (hf : f ∈ FR) (hw : Wd ws) {l : Ln} (h : l ∈ lnT ws f) : Kd 2 (lnE l) := by
  have hs := cs_small f hf
  have : lowS l.1 = true ∧ (-2 < l.2.1 ∧ l.2.1 < 3) ∧ (-2 < l.2.2 ∧ l.2.2 < 3) := by
    rcases lnT_mem h with ⟨h1, h2⟩ | ⟨h1, h2⟩
    · exact ⟨hw.low _ h1, hs.2.2.2.2.1 _ h2⟩
    · exact ⟨by rw [h1]; exact low_join, hs.2.2.2.2.2 _ h2⟩
  refine Kd.tup fun d hd => ?_
  simp only [List.mem_cons, List.not_mem_nil, or_false] at hd
  rcases hd with rfl | rfl
  · exact Kd.str this.1
  · exact kd_qD ⟨by omega, by omega⟩ ⟨by omega, by omega⟩
theorem lnE_inj {a b : Ln} (h : lnE a = lnE b) : a = b := by
  obtain ⟨w, x, y⟩ := a
  obtain ⟨v, z, u⟩ := b
  simp only [lnE, qD, D.tup.injEq, List.cons.injEq, D.str.injEq, D.int.injEq, and_true] at h
  obtain ⟨rfl, rfl, rfl⟩ := h
  rfl
/-- which things are there -/
theorem there_ok {ws : List Str} {f : Fr} (hf : f ∈ FR) (hw : Wd ws) {l : Ln} (h : l ∈ lnT ws f) : ∃ T ∈ AT, ∀ st, fn__law_there [frD f, .str l.1, qD l.2] st = some (thD T, st) := by
  rcases lnT_mem h with ⟨h1, h2⟩ | ⟨h1, h2⟩
  · refine ⟨thN f l.2, thN_mem f hf _ h2, fun st => ?_⟩
    have e : gEq (.str l.1) (.str "join") = some (.bl false) := by
      obtain ⟨c, e, hc⟩ := kd_eq (Kd.str (hw.low _ h1) (n := 0)) (Kd.str low_join (n := 0))
      rw [e]
      cases c with
      | false => rfl
      | true =>
        exact absurd (D.str.inj (hc.mp rfl)) (hw.nj _ h1)
    rw [there_no hf e]
    exact thn _ st f hf _ h2
  · refine ⟨thJ f l.2, thJ_mem f hf _ h2, fun st => ?_⟩
    rw [h1]
    exact thj st f hf _ h2
/-! ### machines -/
abbrev Rl := Nat × List D × List D
abbrev rlD (r : Rl) : D := .tup [.int (r.1 : Nat), .tup r.2.1, .tup r.2.2]
abbrev St := Fr × List Rl
abbrev stD (s : Lk10.St) : D := .tup [frD s.1, .tup (s.2.map rlD)]
abbrev wsD (ws : List Str) : D := .tup (ws.map .str)
abbrev mcD (ws : List Str) (sts : List Lk10.St) : D := .tup [wsD ws, .tup (sts.map stD)]
def rOk (n : Nat) (r : Rl) : Prop := r.1 < n ∧ Kd 5 (.tup r.2.1) ∧ Kd 5 (.tup r.2.2)
structure MOk (ws : List Str) (sts : List Lk10.St) : Prop where
  wd : Wd ws
  w0 : 1 ≤ ws.length
  w1 : ws.length ≤ 3
  s0 : 1 ≤ sts.length
  s1 : sts.length ≤ 6
  fr : ∀ s ∈ sts, s.1 ∈ FR
  rl : ∀ s ∈ sts, s.2.length = (lnT ws s.1).length
  rk : ∀ s ∈ sts, ∀ r ∈ s.2, rOk sts.length r
theorem frame_ok {st : Sto} {n N : Nat} {P : D → Sto → Prop} (h : HB st n N) (hN : N ≤ 100000) (k : ∀ f st', f ∈ FR → HB st' n (N + 1) → P (frD f) st') : FS fn__law_frame [.obj n] st P := by
  refine fs_run ?_
  unfold d__law_frame
  repeat (first | refine w_seq ?_ | refine w_set ?_ | refine w_rt ?_ | refine w_drop ?_ | refine w_frz ?_ | refine w_multi ?_ | refine w_mcons ?_ | refine w_mnil ?_ | refine w_asg ?_ | refine w_hval ?_ | refine w_var rfl ?_ | refine w_c ?_ | refine w_hslot rfl ?_ | refine w_acons ?_ | refine w_anil ?_ | refine w_op ?_ | refine w_un ?_ | refine w_fn ?_ | refine w_tup ?_ | refine w_lst ?_ | refine w_avals ?_ | refine w_alooks ?_ | refine w_callK ?_ | refine w_cut ?_ | refine w_pint ?_ | refine w_pno ?_ | refine w_bof ?_ | refine w_nx ?_ | refine w_ret ?_ | refine xT rfl (fitk (Nat.le_of_ble_eq_true rfl)) ?_ | refine x3 rfl rfl rfl ?_ | refine x2 rfl rfl ?_ | refine x2L rfl rfl ?_ | refine ⟨_, rfl, ?_⟩)
  refine fs_pickL h (by omega) (by simp) (by simp) fun d st1 hd h1 => ?_
  obtain ⟨f, hf, rfl⟩ : ∃ f ∈ FR, d = frD f := by
    have hd : d ∈ ([[], [0], [1], [1], [2], [0, 0], [1, 0], [0, 1], [1, 1], [2, 0], [1, 2], [2, 2]] : List Fr).map frD := hd
    obtain ⟨f, hf, rfl⟩ := List.mem_map.mp hd
    exact ⟨f, (by decide +kernel : ∀ f ∈ ([[], [0], [1], [1], [2], [0, 0], [1, 0], [0, 1], [1, 1], [2, 0], [1, 2], [2, 2]] : List Fr), f ∈ FR) f hf, rfl⟩
  exact k f _ hf h1
abbrev mM (n : Nat) (mw ms : Int) (ws : List Str) (mks : List D) (a5 a6 a7 a8 a9 a10 : Option D) (st : Sto) : MS :=
  ⟨[some (.obj n), some (.int mw), some (.int ms), some (wsD ws), some (.tup mks), a5, a6, a7, a8, a9, a10], st⟩
theorem machine_ok {st : Sto} {n N : Nat} {mw ms : Int} {P : D → Sto → Prop} (h : HB st n N) (hN : N ≤ 50000) (w0 : 0 < mw) (w1 : mw ≤ 3) (m0 : 0 < ms) (m1 : ms ≤ 6)
    (k : ∀ ws sts st', MOk ws sts → HB st' n (N + 2100) → P (mcD ws sts) st') : FS fn__law_machine [.obj n, .int mw, .int ms] st P := by
  refine fs_run ?_
  unfold d__law_machine
  repeat (first | refine w_seq ?_ | refine w_set ?_ | refine w_rt ?_ | refine w_drop ?_ | refine w_frz ?_ | refine w_multi ?_ | refine w_mcons ?_ | refine w_mnil ?_ | refine w_asg ?_ | refine w_hval ?_ | refine w_var rfl ?_ | refine w_c ?_ | refine w_hslot rfl ?_ | refine w_acons ?_ | refine w_anil ?_ | refine w_op ?_ | refine w_un ?_ | refine w_fn ?_ | refine w_tup ?_ | refine w_lst ?_ | refine w_avals ?_ | refine w_alooks ?_ | refine w_callK ?_ | refine w_cut ?_ | refine w_pint ?_ | refine w_pno ?_ | refine w_bof ?_ | refine w_nx ?_ | refine w_ret ?_ | refine xT rfl (fitk (Nat.le_of_ble_eq_true rfl)) ?_ | refine x3 rfl rfl rfl ?_ | refine x2 rfl rfl ?_ | refine x2L rfl rfl ?_ | refine ⟨_, rfl, ?_⟩)
  refine fs_take h (by omega) w0 (by omega) fun r st1 r0 r1 h1 => ?_
  repeat (first | refine w_seq ?_ | refine w_set ?_ | refine w_rt ?_ | refine w_drop ?_ | refine w_frz ?_ | refine w_multi ?_ | refine w_mcons ?_ | refine w_mnil ?_ | refine w_asg ?_ | refine w_hval ?_ | refine w_var rfl ?_ | refine w_c ?_ | refine w_hslot rfl ?_ | refine w_acons ?_ | refine w_anil ?_ | refine w_op ?_ | refine w_un ?_ | refine w_fn ?_ | refine w_tup ?_ | refine w_lst ?_ | refine w_avals ?_ | refine w_alooks ?_ | refine w_callK ?_ | refine w_cut ?_ | refine w_pint ?_ | refine w_pno ?_ | refine w_bof ?_ | refine w_nx ?_ | refine w_ret ?_ | refine xT rfl (fitk (Nat.le_of_ble_eq_true rfl)) ?_ | refine x3 rfl rfl rfl ?_ | refine x2 rfl rfl ?_ | refine x2L rfl rfl ?_ | refine ⟨_, rfl, ?_⟩)
  refine words_ok h1 (by omega) (by omega) (by omega) fun ws st2 hws hwl h2 => ?_
  obtain ⟨x0, wt, rfl⟩ : ∃ x0 wt, ws = x0 :: wt := by
    cases ws with
    | nil => simp at hwl; omega
    | cons a b => exact ⟨a, b, rfl⟩
  show W _ ⟨[some (.obj n), some (.int mw), some (.int ms), some (wsD (x0 :: wt)), none, none, none, none, none, none, none], st2⟩ _
  repeat (first | refine w_seq ?_ | refine w_set ?_ | refine w_rt ?_ | refine w_drop ?_ | refine w_frz ?_ | refine w_multi ?_ | refine w_mcons ?_ | refine w_mnil ?_ | refine w_asg ?_ | refine w_hval ?_ | refine w_var rfl ?_ | refine w_c ?_ | refine w_hslot rfl ?_ | refine w_acons ?_ | refine w_anil ?_ | refine w_op ?_ | refine w_un ?_ | refine w_fn ?_ | refine w_tup ?_ | refine w_lst ?_ | refine w_avals ?_ | refine w_alooks ?_ | refine w_callK ?_ | refine w_cut ?_ | refine w_pint ?_ | refine w_pno ?_ | refine w_bof ?_ | refine w_nx ?_ | refine w_ret ?_ | refine xT rfl (fitk (Nat.le_of_ble_eq_true rfl)) ?_ | refine x3 rfl rfl rfl ?_ | refine x2 rfl rfl ?_ | refine x2L rfl rfl ?_ | refine ⟨_, rfl, ?_⟩)
  refine x3 rfl rfl (ixT (xs := x0 :: wt) (k := 0) (x := x0) rfl) ?_
  repeat (first | refine w_seq ?_ | refine w_set ?_ | refine w_rt ?_ | refine w_drop ?_ | refine w_frz ?_ | refine w_multi ?_ | refine w_mcons ?_ | refine w_mnil ?_ | refine w_asg ?_ | refine w_hval ?_ | refine w_var rfl ?_ | refine w_c ?_ | refine w_hslot rfl ?_ | refine w_acons ?_ | refine w_anil ?_ | refine w_op ?_ | refine w_un ?_ | refine w_fn ?_ | refine w_tup ?_ | refine w_lst ?_ | refine w_avals ?_ | refine w_alooks ?_ | refine w_callK ?_ | refine w_cut ?_ | refine w_pint ?_ | refine w_pno ?_ | refine w_bof ?_ | refine w_nx ?_ | refine w_ret ?_ | refine xT rfl (fitk (Nat.le_of_ble_eq_true rfl)) ?_ | refine x3 rfl rfl rfl ?_ | refine x2 rfl rfl ?_ | refine x2L rfl rfl ?_ | refine ⟨_, rfl, ?_⟩)
  refine fs_take (many := 3) h2 (by omega) (by decide) (by decide) fun r2 st3 r20 r21 h3 => ?_
  repeat (first | refine w_seq ?_ | refine w_set ?_ | refine w_rt ?_ | refine w_drop ?_ | refine w_frz ?_ | refine w_multi ?_ | refine w_mcons ?_ | refine w_mnil ?_ | refine w_asg ?_ | refine w_hval ?_ | refine w_var rfl ?_ | refine w_c ?_ | refine w_hslot rfl ?_ | refine w_acons ?_ | refine w_anil ?_ | refine w_op ?_ | refine w_un ?_ | refine w_fn ?_ | refine w_tup ?_ | refine w_lst ?_ | refine w_avals ?_ | refine w_alooks ?_ | refine w_callK ?_ | refine w_cut ?_ | refine w_pint ?_ | refine w_pno ?_ | refine w_bof ?_ | refine w_nx ?_ | refine w_ret ?_ | refine xT rfl (fitk (Nat.le_of_ble_eq_true rfl)) ?_ | refine x3 rfl rfl rfl ?_ | refine x2 rfl rfl ?_ | refine x2L rfl rfl ?_ | refine ⟨_, rfl, ?_⟩)
  show W _ (mM n mw ms (x0 :: wt) (cutD [.str "yes", .str "no", .str x0] none (some (1 + r2))) none none none none none none st3) _
  have hmk : cutD [.str "yes", .str "no", .str x0] none (some (1 + r2)) ≠ [] ∧ (cutD [.str "yes", .str "no", .str x0] none (some (1 + r2))).length ≤ 3 ∧ ∀ d ∈ cutD [.str "yes", .str "no", .str x0] none (some (1 + r2)), Kd 1 d := by
    refine ⟨?_, cut_len, fun d hd => ?_⟩
    · have : r2 = 0 ∨ r2 = 1 ∨ r2 = 2 := by omega
      rcases this with rfl | rfl | rfl <;> exact fun z => nomatch z
    · have := cut_mem hd
      simp only [List.mem_cons, List.not_mem_nil, or_false] at this
      rcases this with rfl | rfl | rfl
      · exact Kd.str low_yes
      · exact Kd.str low_no
      · exact Kd.str (hws.low _ (List.mem_cons_self ..))
  generalize cutD [.str "yes", .str "no", .str x0] none (some (1 + r2)) = mks at hmk
  have hw3 : (x0 :: wt).length ≤ 3 := by omega
  have hw0 : 1 ≤ (x0 :: wt).length := by simp
  generalize x0 :: wt = ws at hws hwl hw3 hw0
  refine w_lc (fun _ done ys m => ∃ (fs : List Fr) (a6 : Option D) (st : Sto), m = mM n mw ms ws mks none a6 none none none none st ∧ ys = fs.map frD ∧ fs.length = done.length ∧ (∀ f ∈ fs, f ∈ FR) ∧ HB st n (N + 15 + done.length)) ?_
  refine w_irange1 ?_
  repeat (first | refine w_seq ?_ | refine w_set ?_ | refine w_rt ?_ | refine w_drop ?_ | refine w_frz ?_ | refine w_multi ?_ | refine w_mcons ?_ | refine w_mnil ?_ | refine w_asg ?_ | refine w_hval ?_ | refine w_var rfl ?_ | refine w_c ?_ | refine w_hslot rfl ?_ | refine w_acons ?_ | refine w_anil ?_ | refine w_op ?_ | refine w_un ?_ | refine w_fn ?_ | refine w_tup ?_ | refine w_lst ?_ | refine w_avals ?_ | refine w_alooks ?_ | refine w_callK ?_ | refine w_cut ?_ | refine w_pint ?_ | refine w_pno ?_ | refine w_bof ?_ | refine w_nx ?_ | refine w_ret ?_ | refine xT rfl (fitk (Nat.le_of_ble_eq_true rfl)) ?_ | refine x3 rfl rfl rfl ?_ | refine x2 rfl rfl ?_ | refine x2L rfl rfl ?_ | refine ⟨_, rfl, ?_⟩)
  refine fs_take h3 (by omega) m0 (by omega) fun r3 st4 r30 r31 h4 => ?_
  repeat (first | refine w_seq ?_ | refine w_set ?_ | refine w_rt ?_ | refine w_drop ?_ | refine w_frz ?_ | refine w_multi ?_ | refine w_mcons ?_ | refine w_mnil ?_ | refine w_asg ?_ | refine w_hval ?_ | refine w_var rfl ?_ | refine w_c ?_ | refine w_hslot rfl ?_ | refine w_acons ?_ | refine w_anil ?_ | refine w_op ?_ | refine w_un ?_ | refine w_fn ?_ | refine w_tup ?_ | refine w_lst ?_ | refine w_avals ?_ | refine w_alooks ?_ | refine w_callK ?_ | refine w_cut ?_ | refine w_pint ?_ | refine w_pno ?_ | refine w_bof ?_ | refine w_nx ?_ | refine w_ret ?_ | refine xT rfl (fitk (Nat.le_of_ble_eq_true rfl)) ?_ | refine x3 rfl rfl rfl ?_ | refine x2 rfl rfl ?_ | refine x2L rfl rfl ?_ | refine ⟨_, rfl, ?_⟩)
  refine ⟨small_ok (by omega) (by omega), ⟨[], none, st4, rfl, rfl, rfl, by simp, h4⟩, ?_, ?_⟩
  · rintro done d rest ys m2 he ⟨fs, a6, st5, rfl, rfl, hl, hfs, hb⟩
    obtain ⟨hlt, rfl⟩ := range_at he
    refine ⟨_, rfl, w_ret ⟨(fun z => nomatch z), fun _ => ?_⟩⟩
    repeat (first | refine w_seq ?_ | refine w_set ?_ | refine w_rt ?_ | refine w_drop ?_ | refine w_frz ?_ | refine w_multi ?_ | refine w_mcons ?_ | refine w_mnil ?_ | refine w_asg ?_ | refine w_hval ?_ | refine w_var rfl ?_ | refine w_c ?_ | refine w_hslot rfl ?_ | refine w_acons ?_ | refine w_anil ?_ | refine w_op ?_ | refine w_un ?_ | refine w_fn ?_ | refine w_tup ?_ | refine w_lst ?_ | refine w_avals ?_ | refine w_alooks ?_ | refine w_callK ?_ | refine w_cut ?_ | refine w_pint ?_ | refine w_pno ?_ | refine w_bof ?_ | refine w_nx ?_ | refine w_ret ?_ | refine xT rfl (fitk (Nat.le_of_ble_eq_true rfl)) ?_ | refine x3 rfl rfl rfl ?_ | refine x2 rfl rfl ?_ | refine x2L rfl rfl ?_ | refine ⟨_, rfl, ?_⟩)
    refine frame_ok hb (by omega) fun f st6 hf h6 => ?_
    refine ⟨fs ++ [f], _, st6, rfl, by simp, by simp [hl], fun x hx => ?_, by rw [List.length_append]; exact h6⟩
    rcases List.mem_append.mp hx with z | z
    · exact hfs x z
    · rw [List.mem_singleton.mp z]; exact hf
  rintro ys m2 ⟨fs0, a6, st5, rfl, rfl, hl, hfs0, hb⟩
  rw [rangeD_len] at hl hb
  refine ⟨fitk (by rw [List.length_map]; omega), ?_⟩
  refine x3 rfl rfl (addL_ok (xs := [frD []]) (by rw [List.length_map, List.length_singleton]; omega)) ?_
  obtain ⟨fs, hfse⟩ : ∃ fs : List Fr, fs = [] :: fs0 := ⟨_, rfl⟩
  have hfs : ∀ f ∈ fs, f ∈ FR := by
    intro f hf
    rw [hfse] at hf
    rcases List.mem_cons.mp hf with rfl | hf
    · decide
    · exact hfs0 f hf
  have hf0 : fs[0]? = some [] := by rw [hfse]; rfl
  have hfl : 1 ≤ fs.length ∧ fs.length ≤ 6 := by rw [hfse, List.length_cons]; omega
  have hfe : [frD []] ++ fs0.map frD = fs.map frD := by rw [hfse]; rfl
  rw [hfe]
  have h5 : HB st5 n (N + 25) := hb.mono (by omega)
  show W _ (mM n mw ms ws mks (some (.lst (fs.map frD))) none none none none none st5) _
  repeat (first | refine w_seq ?_ | refine w_set ?_ | refine w_rt ?_ | refine w_drop ?_ | refine w_frz ?_ | refine w_multi ?_ | refine w_mcons ?_ | refine w_mnil ?_ | refine w_asg ?_ | refine w_hval ?_ | refine w_var rfl ?_ | refine w_c ?_ | refine w_hslot rfl ?_ | refine w_acons ?_ | refine w_anil ?_ | refine w_op ?_ | refine w_un ?_ | refine w_fn ?_ | refine w_tup ?_ | refine w_lst ?_ | refine w_avals ?_ | refine w_alooks ?_ | refine w_callK ?_ | refine w_cut ?_ | refine w_pint ?_ | refine w_pno ?_ | refine w_bof ?_ | refine w_nx ?_ | refine w_ret ?_ | refine xT rfl (fitk (Nat.le_of_ble_eq_true rfl)) ?_ | refine x3 rfl rfl rfl ?_ | refine x2 rfl rfl ?_ | refine x2L rfl rfl ?_ | refine ⟨_, rfl, ?_⟩)
  refine w_for (fun _ done m => ∃ (sts : List Lk10.St) (a8 a9 a10 : Option D) (st : Sto), m = mM n mw ms ws mks (some (.lst (fs.map frD))) none (some (.lst (sts.map stD))) a8 a9 a10 st ∧ sts.length = done.length ∧ (∀ s ∈ sts, s.1 ∈ FR) ∧
    (∀ s ∈ sts, s.2.length = (lnT ws s.1).length) ∧ (∀ s ∈ sts, ∀ r ∈ s.2, rOk fs.length r) ∧ HB st n (N + 25 + 300 * done.length)) ?_
  refine w_iseq ?_
  repeat (first | refine w_seq ?_ | refine w_set ?_ | refine w_rt ?_ | refine w_drop ?_ | refine w_frz ?_ | refine w_multi ?_ | refine w_mcons ?_ | refine w_mnil ?_ | refine w_asg ?_ | refine w_hval ?_ | refine w_var rfl ?_ | refine w_c ?_ | refine w_hslot rfl ?_ | refine w_acons ?_ | refine w_anil ?_ | refine w_op ?_ | refine w_un ?_ | refine w_fn ?_ | refine w_tup ?_ | refine w_lst ?_ | refine w_avals ?_ | refine w_alooks ?_ | refine w_callK ?_ | refine w_cut ?_ | refine w_pint ?_ | refine w_pno ?_ | refine w_bof ?_ | refine w_nx ?_ | refine w_ret ?_ | refine xT rfl (fitk (Nat.le_of_ble_eq_true rfl)) ?_ | refine x3 rfl rfl rfl ?_ | refine x2 rfl rfl ?_ | refine x2L rfl rfl ?_ | refine ⟨_, rfl, ?_⟩)
  refine ⟨_, .inl rfl, ⟨[], none, none, none, st5, rfl, rfl, by simp, by simp, by simp, h5⟩, ?_, ?_⟩
  · rintro done d rest m2 he ⟨sts, a8, a9, a10, st6, rfl, hsl, hsf, hsr, hsk, hb6⟩
    have hdl : done.length < fs.length := by
      have := congrArg List.length he
      rw [List.length_append, List.length_cons, List.length_map] at this
      omega
    obtain ⟨f, hfm, rfl⟩ : ∃ f ∈ fs, d = frD f := by
      have : d ∈ fs.map frD := by rw [← he]; simp
      obtain ⟨x, hx, e⟩ := List.mem_map.mp this
      exact ⟨x, hx, e.symm⟩
    have hf := hfs f hfm
    refine ⟨_, rfl, ?_⟩
    show W _ (mM n mw ms ws mks (some (.lst (fs.map frD))) none (some (.lst (sts.map stD))) (some (frD f)) a9 a10 st6) _
    repeat (first | refine w_seq ?_ | refine w_set ?_ | refine w_rt ?_ | refine w_drop ?_ | refine w_frz ?_ | refine w_multi ?_ | refine w_mcons ?_ | refine w_mnil ?_ | refine w_asg ?_ | refine w_hval ?_ | refine w_var rfl ?_ | refine w_c ?_ | refine w_hslot rfl ?_ | refine w_acons ?_ | refine w_anil ?_ | refine w_op ?_ | refine w_un ?_ | refine w_fn ?_ | refine w_tup ?_ | refine w_lst ?_ | refine w_avals ?_ | refine w_alooks ?_ | refine w_callK ?_ | refine w_cut ?_ | refine w_pint ?_ | refine w_pno ?_ | refine w_bof ?_ | refine w_nx ?_ | refine w_ret ?_ | refine xT rfl (fitk (Nat.le_of_ble_eq_true rfl)) ?_ | refine x3 rfl rfl rfl ?_ | refine x2 rfl rfl ?_ | refine x2L rfl rfl ?_ | refine ⟨_, rfl, ?_⟩)
    refine w_lc (fun _ done2 ys m => ∃ (rs : List Rl) (a10 : Option D) (st : Sto), m = mM n mw ms ws mks (some (.lst (fs.map frD))) none (some (.lst (sts.map stD))) (some (frD f)) a9 a10 st ∧ ys = rs.map rlD ∧ rs.length = done2.length ∧
      (∀ r ∈ rs, rOk fs.length r) ∧ HB st n (N + 25 + 300 * done.length + 12 * done2.length)) ?_
    refine w_iseq ?_
    repeat (first | refine w_seq ?_ | refine w_set ?_ | refine w_rt ?_ | refine w_drop ?_ | refine w_frz ?_ | refine w_multi ?_ | refine w_mcons ?_ | refine w_mnil ?_ | refine w_asg ?_ | refine w_hval ?_ | refine w_var rfl ?_ | refine w_c ?_ | refine w_hslot rfl ?_ | refine w_acons ?_ | refine w_anil ?_ | refine w_op ?_ | refine w_un ?_ | refine w_fn ?_ | refine w_tup ?_ | refine w_lst ?_ | refine w_avals ?_ | refine w_alooks ?_ | refine w_callK ?_ | refine w_cut ?_ | refine w_pint ?_ | refine w_pno ?_ | refine w_bof ?_ | refine w_nx ?_ | refine w_ret ?_ | refine xT rfl (fitk (Nat.le_of_ble_eq_true rfl)) ?_ | refine x3 rfl rfl rfl ?_ | refine x2 rfl rfl ?_ | refine x2L rfl rfl ?_ | refine ⟨_, rfl, ?_⟩)
    refine fs_of (law_lines (ws := ws.map .str) (by rw [List.length_map]; omega) (by rw [List.length_map]; omega) hf _) ?_
    rw [lnD_T]
    have hll := lnT_len (ws := ws) hf (by omega)
    refine ⟨_, .inl rfl, ⟨[], a10, st6, rfl, rfl, rfl, by simp, hb6⟩, ?_, ?_⟩
    · rintro done2 d rest2 ys m3 he2 ⟨rs, b10, st7, rfl, rfl, hrl, hrk, hb7⟩
      have hd2 : done2.length < 25 := by
        have := congrArg List.length he2
        rw [List.length_append, List.length_cons, List.length_map] at this
        omega
      obtain ⟨l, hl2, rfl⟩ : ∃ l ∈ lnT ws f, d = lnE l := by
        have : d ∈ (lnT ws f).map lnE := by rw [← he2]; simp
        obtain ⟨x, hx, e⟩ := List.mem_map.mp this
        exact ⟨x, hx, e.symm⟩
      obtain ⟨T, hT, hth⟩ := there_ok hf hws hl2
      refine ⟨_, rfl, w_ret ⟨(fun z => nomatch z), fun _ => ?_⟩⟩
      repeat (first | refine w_seq ?_ | refine w_set ?_ | refine w_rt ?_ | refine w_drop ?_ | refine w_frz ?_ | refine w_multi ?_ | refine w_mcons ?_ | refine w_mnil ?_ | refine w_asg ?_ | refine w_hval ?_ | refine w_var rfl ?_ | refine w_c ?_ | refine w_hslot rfl ?_ | refine w_acons ?_ | refine w_anil ?_ | refine w_op ?_ | refine w_un ?_ | refine w_fn ?_ | refine w_tup ?_ | refine w_lst ?_ | refine w_avals ?_ | refine w_alooks ?_ | refine w_callK ?_ | refine w_cut ?_ | refine w_pint ?_ | refine w_pno ?_ | refine w_bof ?_ | refine w_nx ?_ | refine w_ret ?_ | refine xT rfl (fitk (Nat.le_of_ble_eq_true rfl)) ?_ | refine x3 rfl rfl rfl ?_ | refine x2 rfl rfl ?_ | refine x2L rfl rfl ?_ | refine ⟨_, rfl, ?_⟩)
      refine rule_ok hb7 (by omega) hfs hf0 (by omega) hT hth hmk.1 hmk.2.1 hmk.2.2 fun g fi sa st8 hg hfi hsa h8 => ?_
      refine ⟨rs ++ [(g, fi, sa)], _, st8, rfl, by simp, by simp [hrl], fun r hr => ?_, h8.mono (by rw [List.length_append, List.length_singleton]; omega)⟩
      rcases List.mem_append.mp hr with z | z
      · exact hrk r z
      · rw [List.mem_singleton.mp z]; exact ⟨hg, hfi, hsa⟩
    rintro ys m3 ⟨rs, b10, st7, rfl, rfl, hrl, hrk, hb7⟩
    rw [List.length_map] at hrl hb7
    refine ⟨fitk (by rw [List.length_map]; omega), ?_⟩
    show W _ (mM n mw ms ws mks (some (.lst (fs.map frD))) none (some (.lst (sts.map stD))) (some (frD f)) (some (.lst (rs.map rlD))) a10 st7) _
    repeat (first | refine w_seq ?_ | refine w_set ?_ | refine w_rt ?_ | refine w_drop ?_ | refine w_frz ?_ | refine w_multi ?_ | refine w_mcons ?_ | refine w_mnil ?_ | refine w_asg ?_ | refine w_hval ?_ | refine w_var rfl ?_ | refine w_c ?_ | refine w_hslot rfl ?_ | refine w_acons ?_ | refine w_anil ?_ | refine w_op ?_ | refine w_un ?_ | refine w_fn ?_ | refine w_tup ?_ | refine w_lst ?_ | refine w_avals ?_ | refine w_alooks ?_ | refine w_callK ?_ | refine w_cut ?_ | refine w_pint ?_ | refine w_pno ?_ | refine w_bof ?_ | refine w_nx ?_ | refine w_ret ?_ | refine xT rfl (fitk (Nat.le_of_ble_eq_true rfl)) ?_ | refine x3 rfl rfl rfl ?_ | refine x2 rfl rfl ?_ | refine x2L rfl rfl ?_ | refine ⟨_, rfl, ?_⟩)
    refine w_mut rfl ?_
    repeat (first | refine w_seq ?_ | refine w_set ?_ | refine w_rt ?_ | refine w_drop ?_ | refine w_frz ?_ | refine w_multi ?_ | refine w_mcons ?_ | refine w_mnil ?_ | refine w_asg ?_ | refine w_hval ?_ | refine w_var rfl ?_ | refine w_c ?_ | refine w_hslot rfl ?_ | refine w_acons ?_ | refine w_anil ?_ | refine w_op ?_ | refine w_un ?_ | refine w_fn ?_ | refine w_tup ?_ | refine w_lst ?_ | refine w_avals ?_ | refine w_alooks ?_ | refine w_callK ?_ | refine w_cut ?_ | refine w_pint ?_ | refine w_pno ?_ | refine w_bof ?_ | refine w_nx ?_ | refine w_ret ?_ | refine xT rfl (fitk (Nat.le_of_ble_eq_true rfl)) ?_ | refine x3 rfl rfl rfl ?_ | refine x2 rfl rfl ?_ | refine x2L rfl rfl ?_ | refine ⟨_, rfl, ?_⟩)
    refine ⟨_, _, _, rfl, append_ok (by rw [List.length_map]; omega), ?_⟩
    refine ⟨sts ++ [(f, rs)], some (frD f), some (.lst (rs.map rlD)), a10, st7, by rw [List.map_append]; rfl, by simp [hsl], ?_, ?_, ?_, hb7.mono (by rw [List.length_append, List.length_singleton]; omega)⟩
    · intro s hs
      rcases List.mem_append.mp hs with z | z
      · exact hsf s z
      · rw [List.mem_singleton.mp z]; exact hf
    · intro s hs
      rcases List.mem_append.mp hs with z | z
      · exact hsr s z
      · rw [List.mem_singleton.mp z]; exact hrl
    · intro s hs
      rcases List.mem_append.mp hs with z | z
      · exact hsk s z
      · rw [List.mem_singleton.mp z]; exact hrk
  rintro m2 ⟨sts, a8, a9, a10, st6, rfl, hsl, hsf, hsr, hsk, hb6⟩
  rw [List.length_map] at hsl hb6
  repeat (first | refine w_seq ?_ | refine w_set ?_ | refine w_rt ?_ | refine w_drop ?_ | refine w_frz ?_ | refine w_multi ?_ | refine w_mcons ?_ | refine w_mnil ?_ | refine w_asg ?_ | refine w_hval ?_ | refine w_var rfl ?_ | refine w_c ?_ | refine w_hslot rfl ?_ | refine w_acons ?_ | refine w_anil ?_ | refine w_op ?_ | refine w_un ?_ | refine w_fn ?_ | refine w_tup ?_ | refine w_lst ?_ | refine w_avals ?_ | refine w_alooks ?_ | refine w_callK ?_ | refine w_cut ?_ | refine w_pint ?_ | refine w_pno ?_ | refine w_bof ?_ | refine w_nx ?_ | refine w_ret ?_ | refine xT rfl (fitk (Nat.le_of_ble_eq_true rfl)) ?_ | refine x3 rfl rfl rfl ?_ | refine x2 rfl rfl ?_ | refine x2L rfl rfl ?_ | refine ⟨_, rfl, ?_⟩)
  refine k ws sts _ ⟨hws, hw0, hw3, by omega, by omega, hsf, hsr, ?_⟩ (hb6.mono (by omega))
  rw [hsl]
  exact hsk
end Lk10

namespace Lk10
open PySem PySem.Spec L2 MI
theorem map_at {α : Type} {enc : α → D} {xs : List α} {done rest : List D} {d : D} (h : done ++ d :: rest = xs.map enc) : ∃ x, xs[done.length]? = some x ∧ d = enc x := by
  have h2 : (xs.map enc)[done.length]? = some d := by rw [← h]; simp
  rw [List.getElem?_map, Option.map_eq_some_iff] at h2
  obtain ⟨x, hx, e⟩ := h2
  exact ⟨x, hx, e.symm⟩
/-! ### rule -/
theorem prule_ok {ws : List Str} {sts : List Lk10.St} (M : MOk ws sts) {k j : Nat} {f : Fr} {rs : List Rl} {l : Ln} {r : Rl} (hk : sts[k]? = some (f, rs)) (hl : (lnT ws f)[j]? = some l) (hr : rs[j]? = some r) {st : Sto} :
    FS fn_rule [mcD ws sts, .int (k : Nat), .str l.1, qD l.2] st fun d st' => d = rlD r ∧ st' = st := by
  have hf : f ∈ FR := M.fr _ (List.mem_of_getElem? hk)
  have kdl : Kd 3 (.tup ((lnT ws f).map lnE)) := Kd.tup fun d hd => by
    obtain ⟨x, hx, rfl⟩ := List.mem_map.mp hd
    exact lnE_kd hf M.wd hx
  refine fs_run ?_
  unfold d_rule
  repeat (first | refine w_seq ?_ | refine w_set ?_ | refine w_rt ?_ | refine w_drop ?_ | refine w_frz ?_ | refine w_multi ?_ | refine w_mcons ?_ | refine w_mnil ?_ | refine w_asg ?_ | refine w_hval ?_ | refine w_var rfl ?_ | refine w_c ?_ | refine w_hslot rfl ?_ | refine w_acons ?_ | refine w_anil ?_ | refine w_op ?_ | refine w_un ?_ | refine w_fn ?_ | refine w_tup ?_ | refine w_lst ?_ | refine w_avals ?_ | refine w_alooks ?_ | refine w_callK ?_ | refine w_cut ?_ | refine w_pint ?_ | refine w_pno ?_ | refine w_bof ?_ | refine w_nx ?_ | refine w_ret ?_ | refine xT rfl (fitk (Nat.le_of_ble_eq_true rfl)) ?_ | refine x3 rfl rfl rfl ?_ | refine x2 rfl rfl ?_ | refine x2L rfl rfl ?_ | refine ⟨_, rfl, ?_⟩)
  refine x3 rfl rfl (ixT hk) ?_
  repeat (first | refine w_seq ?_ | refine w_set ?_ | refine w_rt ?_ | refine w_drop ?_ | refine w_frz ?_ | refine w_multi ?_ | refine w_mcons ?_ | refine w_mnil ?_ | refine w_asg ?_ | refine w_hval ?_ | refine w_var rfl ?_ | refine w_c ?_ | refine w_hslot rfl ?_ | refine w_acons ?_ | refine w_anil ?_ | refine w_op ?_ | refine w_un ?_ | refine w_fn ?_ | refine w_tup ?_ | refine w_lst ?_ | refine w_avals ?_ | refine w_alooks ?_ | refine w_callK ?_ | refine w_cut ?_ | refine w_pint ?_ | refine w_pno ?_ | refine w_bof ?_ | refine w_nx ?_ | refine w_ret ?_ | refine xT rfl (fitk (Nat.le_of_ble_eq_true rfl)) ?_ | refine x3 rfl rfl rfl ?_ | refine x2 rfl rfl ?_ | refine x2L rfl rfl ?_ | refine ⟨_, rfl, ?_⟩)
  refine w_index ?_
  repeat (first | refine w_seq ?_ | refine w_set ?_ | refine w_rt ?_ | refine w_drop ?_ | refine w_frz ?_ | refine w_multi ?_ | refine w_mcons ?_ | refine w_mnil ?_ | refine w_asg ?_ | refine w_hval ?_ | refine w_var rfl ?_ | refine w_c ?_ | refine w_hslot rfl ?_ | refine w_acons ?_ | refine w_anil ?_ | refine w_op ?_ | refine w_un ?_ | refine w_fn ?_ | refine w_tup ?_ | refine w_lst ?_ | refine w_avals ?_ | refine w_alooks ?_ | refine w_callK ?_ | refine w_cut ?_ | refine w_pint ?_ | refine w_pno ?_ | refine w_bof ?_ | refine w_nx ?_ | refine w_ret ?_ | refine xT rfl (fitk (Nat.le_of_ble_eq_true rfl)) ?_ | refine x3 rfl rfl rfl ?_ | refine x2 rfl rfl ?_ | refine x2L rfl rfl ?_ | refine ⟨_, rfl, ?_⟩)
  refine fs_of (lines_of_ok (ws := ws.map .str) (by rw [List.length_map]; exact M.w0) (by rw [List.length_map]; exact M.w1) hf _) ?_
  rw [lnD_T]
  refine ⟨_, rfl, ?_⟩
  repeat (first | refine w_seq ?_ | refine w_set ?_ | refine w_rt ?_ | refine w_drop ?_ | refine w_frz ?_ | refine w_multi ?_ | refine w_mcons ?_ | refine w_mnil ?_ | refine w_asg ?_ | refine w_hval ?_ | refine w_var rfl ?_ | refine w_c ?_ | refine w_hslot rfl ?_ | refine w_acons ?_ | refine w_anil ?_ | refine w_op ?_ | refine w_un ?_ | refine w_fn ?_ | refine w_tup ?_ | refine w_lst ?_ | refine w_avals ?_ | refine w_alooks ?_ | refine w_callK ?_ | refine w_cut ?_ | refine w_pint ?_ | refine w_pno ?_ | refine w_bof ?_ | refine w_nx ?_ | refine w_ret ?_ | refine xT rfl (fitk (Nat.le_of_ble_eq_true rfl)) ?_ | refine x3 rfl rfl rfl ?_ | refine x2 rfl rfl ?_ | refine x2L rfl rfl ?_ | refine ⟨_, rfl, ?_⟩)
  refine ⟨_, _, _, rfl, rfl, kd_index kdl (lnE_kd hf M.wd (List.mem_of_getElem? hl)) (j := j) ?_ ?_, ?_⟩
  · rw [List.getElem?_map, hl]; rfl
  · exact List.pairwise_map.mpr (List.Pairwise.imp (fun {a b} (hab : a ≠ b) (z : lnE a = lnE b) => hab (lnE_inj z)) (lnT_nd hf M.wd))
  exact x3 rfl rfl (ixT hr) ⟨rfl, rfl⟩
/-! ### which stands are reached -/
def goals (sts : List Lk10.St) (k : Nat) : List Nat := match sts[k]? with
  | some s => s.2.map (·.1)
  | none => []
inductive Rch (sts : List Lk10.St) : Nat → Prop
  | zero : Rch sts 0
  | step {k g : Nat} : Rch sts k → g ∈ goals sts k → Rch sts g
abbrev nsD (fd : List Nat) : List D := fd.map fun (x : Nat) => D.int (x : Nat)
theorem notin_ns {g : Nat} {fd : List Nat} (h : ∀ x ∈ fd, x < 100) (h1 : g < 100) : gNotInA (.int (g : Nat)) (.lst (nsD fd)) = some (.bl (decide (g ∉ fd))) := by
  have e : nsD fd = (fd.map fun x : Nat => (x : Int)).map D.int := by rw [List.map_map]; rfl
  rw [e, notin_ints (by
    intro x hx
    obtain ⟨y, hy, rfl⟩ := List.mem_map.mp hx
    have := h y hy
    omega) (by omega) (by omega)]
  congr 2
  rw [decide_eq_decide]
  constructor
  · intro z zz; exact z (List.mem_map.mpr ⟨g, zz, rfl⟩)
  · intro z zz
    obtain ⟨y, hy, e⟩ := List.mem_map.mp zz
    have : y = g := by omega
    subst this
    exact z hy
theorem rch_lt {ws : List Str} {sts : List Lk10.St} (M : MOk ws sts) {k : Nat} (h : Rch sts k) : k < sts.length := by
  induction h with
  | zero => exact M.s0
  | step h hg ih =>
    unfold goals at hg
    split at hg
    · next s hs =>
      obtain ⟨r, hr, rfl⟩ := List.mem_map.mp hg
      exact (M.rk s (List.mem_of_getElem? hs) r hr).1
    · cases hg
/-- what is told of the stands reached -/
def Told (sts : List Lk10.St) (d : D) : Prop := ∃ ns : List Int, d = .tup (ns.map .int) ∧ ns.Pairwise (· < ·) ∧ ∀ z : Int, z ∈ ns ↔ ∃ k : Nat, z = (k : Int) ∧ Rch sts k
theorem Told.same {sts : List Lk10.St} {a b : D} (ha : Told sts a) (hb : Told sts b) : a = b := by
  obtain ⟨xs, rfl, h1, h2⟩ := ha
  obtain ⟨ys, rfl, h3, h4⟩ := hb
  rw [lt_uniq h1 h3 fun z => (h2 z).trans (h4 z).symm]
theorem Told.kd {ws : List Str} {sts : List Lk10.St} (M : MOk ws sts) {a : D} (ha : Told sts a) : Kd 1 a := by
  obtain ⟨xs, rfl, h1, h2⟩ := ha
  refine kd_intsT fun x hx => ?_
  obtain ⟨k, rfl, hk⟩ := (h2 x).mp hx
  have := rch_lt M hk
  have := M.s1
  omega
/-- of a list with just the reached ones -/
theorem told_of {sts : List Lk10.St} {fd : List Nat} (h0 : 0 ∈ fd) (hr : ∀ x ∈ fd, Rch sts x) (hc : ∀ x ∈ fd, ∀ g ∈ goals sts x, g ∈ fd) {ns : List Int} (hs : ns.Pairwise (· < ·)) (hm : ∀ z : Int, z ∈ ns ↔ z ∈ fd.map fun x : Nat => (x : Int)) : Told sts (.tup (ns.map .int)) := by
  refine ⟨ns, rfl, hs, fun z => ?_⟩
  rw [hm]
  have all : ∀ k, Rch sts k → k ∈ fd := by
    intro k hk
    induction hk with
    | zero => exact h0
    | step _ hg ih => exact hc _ ih _ hg
  constructor
  · intro h
    obtain ⟨x, hx, rfl⟩ := List.mem_map.mp h
    exact ⟨x, rfl, hr x hx⟩
  · rintro ⟨k, rfl, hk⟩
    exact List.mem_map.mpr ⟨k, all k hk, rfl⟩
abbrev mC (ws : List Str) (sts : List Lk10.St) (fd wt : List Nat) (a3 a4 a5 : Option D) (st : Sto) : MS := ⟨[some (mcD ws sts), some (.lst (nsD fd)), some (.lst (nsD wt)), a3, a4, a5], st⟩
structure RI (sts : List Lk10.St) (fd : List Nat) : Prop where
  nd : fd.Nodup
  z : 0 ∈ fd
  r : ∀ x ∈ fd, Rch sts x
theorem RI.len {ws : List Str} {sts : List Lk10.St} (M : MOk ws sts) {fd : List Nat} (h : RI sts fd) : fd.length ≤ sts.length := by
  have := nodup_le (m := List.range sts.length) h.nd fun x hx => List.mem_range.mpr (rch_lt M (h.r x hx))
  rwa [List.length_range] at this
theorem reached_ok {ws : List Str} {sts : List Lk10.St} (M : MOk ws sts) {st : Sto} : FS fn_reached [mcD ws sts] st fun d st' => Told sts d ∧ st' = st := by
  have s1 := M.s1
  have s0 := M.s0
  refine fs_run ?_
  unfold d_reached
  repeat (first | refine w_seq ?_ | refine w_set ?_ | refine w_rt ?_ | refine w_drop ?_ | refine w_frz ?_ | refine w_multi ?_ | refine w_mcons ?_ | refine w_mnil ?_ | refine w_asg ?_ | refine w_hval ?_ | refine w_var rfl ?_ | refine w_c ?_ | refine w_hslot rfl ?_ | refine w_acons ?_ | refine w_anil ?_ | refine w_op ?_ | refine w_un ?_ | refine w_fn ?_ | refine w_tup ?_ | refine w_lst ?_ | refine w_avals ?_ | refine w_alooks ?_ | refine w_callK ?_ | refine w_cut ?_ | refine w_pint ?_ | refine w_pno ?_ | refine w_bof ?_ | refine w_nx ?_ | refine w_ret ?_ | refine xT rfl (fitk (Nat.le_of_ble_eq_true rfl)) ?_ | refine x3 rfl rfl rfl ?_ | refine x2 rfl rfl ?_ | refine x2L rfl rfl ?_ | refine ⟨_, rfl, ?_⟩)
  refine ⟨rfl, ?_⟩
  show W _ (mC ws sts [0] [0] none none none st) _
  refine w_seq ?_
  refine w_while (fun k m => ∃ (fd wt : List Nat) (a3 a4 a5 : Option D), m = mC ws sts fd wt a3 a4 a5 st ∧ RI sts fd ∧ (∀ x ∈ wt, x ∈ fd) ∧ (∀ x ∈ fd, x ∉ wt → ∀ g ∈ goals sts x, g ∈ fd) ∧ k = 2 * (sts.length - fd.length) + wt.length ∧ k ≤ 2 * sts.length) 100 (2 * (sts.length - 1) + 1) _ (by omega)
    ⟨[0], [0], none, none, none, rfl, ⟨by simp, by simp, by simp; exact .zero⟩, by simp, fun x hx hn => absurd hx hn, rfl, by omega⟩ ?_
  rintro k m ⟨fd, wt, a3, a4, a5, rfl, I, hw, hc, rfl, hkb⟩
  refine w_btru ?_
  repeat (first | refine w_seq ?_ | refine w_set ?_ | refine w_rt ?_ | refine w_drop ?_ | refine w_frz ?_ | refine w_multi ?_ | refine w_mcons ?_ | refine w_mnil ?_ | refine w_asg ?_ | refine w_hval ?_ | refine w_var rfl ?_ | refine w_c ?_ | refine w_hslot rfl ?_ | refine w_acons ?_ | refine w_anil ?_ | refine w_op ?_ | refine w_un ?_ | refine w_fn ?_ | refine w_tup ?_ | refine w_lst ?_ | refine w_avals ?_ | refine w_alooks ?_ | refine w_callK ?_ | refine w_cut ?_ | refine w_pint ?_ | refine w_pno ?_ | refine w_bof ?_ | refine w_nx ?_ | refine w_ret ?_ | refine xT rfl (fitk (Nat.le_of_ble_eq_true rfl)) ?_ | refine x3 rfl rfl rfl ?_ | refine x2 rfl rfl ?_ | refine x2L rfl rfl ?_ | refine ⟨_, rfl, ?_⟩)
  refine ⟨_, _, rfl, rfl, ?_, ?_⟩
  · intro hb
    have hwt : wt = [] := by
      cases wt with
      | nil => rfl
      | cons x r => cases hb
    subst hwt
    repeat (first | refine w_seq ?_ | refine w_set ?_ | refine w_rt ?_ | refine w_drop ?_ | refine w_frz ?_ | refine w_multi ?_ | refine w_mcons ?_ | refine w_mnil ?_ | refine w_asg ?_ | refine w_hval ?_ | refine w_var rfl ?_ | refine w_c ?_ | refine w_hslot rfl ?_ | refine w_acons ?_ | refine w_anil ?_ | refine w_op ?_ | refine w_un ?_ | refine w_fn ?_ | refine w_tup ?_ | refine w_lst ?_ | refine w_avals ?_ | refine w_alooks ?_ | refine w_callK ?_ | refine w_cut ?_ | refine w_pint ?_ | refine w_pno ?_ | refine w_bof ?_ | refine w_nx ?_ | refine w_ret ?_ | refine xT rfl (fitk (Nat.le_of_ble_eq_true rfl)) ?_ | refine x3 rfl rfl rfl ?_ | refine x2 rfl rfl ?_ | refine x2L rfl rfl ?_ | refine ⟨_, rfl, ?_⟩)
    have e : nsD fd = (fd.map fun x : Nat => (x : Int)).map D.int := by rw [List.map_map]; rfl
    rw [e]
    refine x2L rfl sorted_ints ?_
    repeat (first | refine w_seq ?_ | refine w_set ?_ | refine w_rt ?_ | refine w_drop ?_ | refine w_frz ?_ | refine w_multi ?_ | refine w_mcons ?_ | refine w_mnil ?_ | refine w_asg ?_ | refine w_hval ?_ | refine w_var rfl ?_ | refine w_c ?_ | refine w_hslot rfl ?_ | refine w_acons ?_ | refine w_anil ?_ | refine w_op ?_ | refine w_un ?_ | refine w_fn ?_ | refine w_tup ?_ | refine w_lst ?_ | refine w_avals ?_ | refine w_alooks ?_ | refine w_callK ?_ | refine w_cut ?_ | refine w_pint ?_ | refine w_pno ?_ | refine w_bof ?_ | refine w_nx ?_ | refine w_ret ?_ | refine xT rfl (fitk (Nat.le_of_ble_eq_true rfl)) ?_ | refine x3 rfl rfl rfl ?_ | refine x2 rfl rfl ?_ | refine x2L rfl rfl ?_ | refine ⟨_, rfl, ?_⟩)
    refine ⟨told_of I.z I.r (fun x hx => hc x hx (by simp)) (srtI_lt ?_) (fun z => srtI_mem), rfl⟩
    have nd : fd.Pairwise (fun a b => a ≠ b) := I.nd
    exact List.pairwise_map.mpr (nd.imp (fun {a b : Nat} (hab : a ≠ b) (z : (a : Int) = (b : Int)) => hab (by omega)))
  · intro hb
    obtain ⟨w0, x, rfl⟩ : ∃ w0 x, wt = w0 ++ [x] := by
      rcases List.eq_nil_or_concat wt with rfl | ⟨a, b, rfl⟩
      · cases hb
      · exact ⟨a, b, by simp⟩
    have hx : x ∈ fd := hw x (by simp)
    have hxs := rch_lt M (I.r x hx)
    obtain ⟨s, hs⟩ : ∃ s, sts[x]? = some s := ⟨_, List.getElem?_eq_getElem hxs⟩
    have fl0 := I.len M
    refine w_for (fun _ done m => ∃ (fd' wt' : List Nat) (a3 a4 a5 : Option D), m = mC ws sts fd' wt' a3 a4 a5 st ∧ RI sts fd' ∧ (∀ y ∈ fd, y ∈ fd') ∧ (∀ y ∈ wt', y ∈ fd') ∧ (∀ y ∈ fd', y ∉ wt' → y ≠ x → ∀ g ∈ goals sts y, g ∈ fd') ∧
      (∀ r ∈ s.2.take done.length, r.1 ∈ fd') ∧ 2 * (sts.length - fd'.length) + wt'.length ≤ 2 * (sts.length - fd.length) + w0.length) ?_
    refine w_iseq ?_
    repeat (first | refine w_seq ?_ | refine w_set ?_ | refine w_rt ?_ | refine w_drop ?_ | refine w_frz ?_ | refine w_multi ?_ | refine w_mcons ?_ | refine w_mnil ?_ | refine w_asg ?_ | refine w_hval ?_ | refine w_var rfl ?_ | refine w_c ?_ | refine w_hslot rfl ?_ | refine w_acons ?_ | refine w_anil ?_ | refine w_op ?_ | refine w_un ?_ | refine w_fn ?_ | refine w_tup ?_ | refine w_lst ?_ | refine w_avals ?_ | refine w_alooks ?_ | refine w_callK ?_ | refine w_cut ?_ | refine w_pint ?_ | refine w_pno ?_ | refine w_bof ?_ | refine w_nx ?_ | refine w_ret ?_ | refine xT rfl (fitk (Nat.le_of_ble_eq_true rfl)) ?_ | refine x3 rfl rfl rfl ?_ | refine x2 rfl rfl ?_ | refine x2L rfl rfl ?_ | refine ⟨_, rfl, ?_⟩)
    refine w_mut rfl ?_
    refine w_ret ?_
    refine ⟨_, D.int (x : Nat), nsD w0, rfl, ?_, ?_⟩
    · show (match (nsD (w0 ++ [x]))[(nsD (w0 ++ [x])).length - 1]? with | some y => some (y, (nsD (w0 ++ [x])).dropLast) | none => none) = _
      have e1 : nsD (w0 ++ [x]) = nsD w0 ++ [D.int (x : Nat)] := by unfold nsD; rw [List.map_append]; rfl
      rw [e1, List.dropLast_concat]
      simp
    refine x3 rfl rfl (ixT hs) ?_
    repeat (first | refine w_seq ?_ | refine w_set ?_ | refine w_rt ?_ | refine w_drop ?_ | refine w_frz ?_ | refine w_multi ?_ | refine w_mcons ?_ | refine w_mnil ?_ | refine w_asg ?_ | refine w_hval ?_ | refine w_var rfl ?_ | refine w_c ?_ | refine w_hslot rfl ?_ | refine w_acons ?_ | refine w_anil ?_ | refine w_op ?_ | refine w_un ?_ | refine w_fn ?_ | refine w_tup ?_ | refine w_lst ?_ | refine w_avals ?_ | refine w_alooks ?_ | refine w_callK ?_ | refine w_cut ?_ | refine w_pint ?_ | refine w_pno ?_ | refine w_bof ?_ | refine w_nx ?_ | refine w_ret ?_ | refine xT rfl (fitk (Nat.le_of_ble_eq_true rfl)) ?_ | refine x3 rfl rfl rfl ?_ | refine x2 rfl rfl ?_ | refine x2L rfl rfl ?_ | refine ⟨_, rfl, ?_⟩)
    refine ⟨_, .inr rfl, ⟨fd, w0, a3, a4, a5, rfl, I, fun y hy => hy, fun y hy => hw y (by simp [hy]), fun y hy hn hne => hc y hy (by simp [hn, hne]), by simp, Nat.le_refl _⟩, ?_, ?_⟩
    · rintro done d rest m2 he ⟨fd', wt', b3, b4, b5, rfl, I', hsub, hw', hc', hdn, hms⟩
      obtain ⟨r, hr, rfl⟩ := map_at he
      have hrk := M.rk s (List.mem_of_getElem? hs) r (List.mem_of_getElem? hr)
      have htk : s.2.take (done.length + 1) = s.2.take done.length ++ [r] := by rw [List.take_add_one, hr]; rfl
      have hgr : r.1 ∈ goals sts x := by unfold goals; rw [hs]; exact List.mem_map.mpr ⟨r, List.mem_of_getElem? hr, rfl⟩
      have fl1 := I'.len M
      refine ⟨_, rfl, ?_⟩
      refine w_if ?_
      repeat (first | refine w_seq ?_ | refine w_set ?_ | refine w_rt ?_ | refine w_drop ?_ | refine w_frz ?_ | refine w_multi ?_ | refine w_mcons ?_ | refine w_mnil ?_ | refine w_asg ?_ | refine w_hval ?_ | refine w_var rfl ?_ | refine w_c ?_ | refine w_hslot rfl ?_ | refine w_acons ?_ | refine w_anil ?_ | refine w_op ?_ | refine w_un ?_ | refine w_fn ?_ | refine w_tup ?_ | refine w_lst ?_ | refine w_avals ?_ | refine w_alooks ?_ | refine w_callK ?_ | refine w_cut ?_ | refine w_pint ?_ | refine w_pno ?_ | refine w_bof ?_ | refine w_nx ?_ | refine w_ret ?_ | refine xT rfl (fitk (Nat.le_of_ble_eq_true rfl)) ?_ | refine x3 rfl rfl rfl ?_ | refine x2 rfl rfl ?_ | refine x2L rfl rfl ?_ | refine ⟨_, rfl, ?_⟩)
      refine x3 rfl rfl (notin_ns (fun y hy => by have := rch_lt M (I'.r y hy); omega) (by have := hrk.1; omega)) ?_
      refine ⟨_, rfl, fun hb => ?_, fun hb => ?_⟩
      · have hn : r.1 ∉ fd' := of_decide_eq_true hb
        have I2 : RI sts (fd' ++ [r.1]) := ⟨by rw [List.nodup_append]; exact ⟨I'.nd, by simp, fun a ha b hb z => by rw [List.mem_singleton.mp hb] at z; exact hn (z ▸ ha)⟩, by simp [I'.z], fun y hy => by
          rcases List.mem_append.mp hy with z | z
          · exact I'.r y z
          · rw [List.mem_singleton.mp z]; exact .step (I.r x hx) hgr⟩
        have fl2 := I2.len M
        rw [List.length_append, List.length_singleton] at fl2
        have wl : wt'.length ≤ 100 := by rw [List.length_append, List.length_singleton] at hkb; omega
        refine w_seq (w_drop (w_mut rfl ?_))
        repeat (first | refine w_seq ?_ | refine w_set ?_ | refine w_rt ?_ | refine w_drop ?_ | refine w_frz ?_ | refine w_multi ?_ | refine w_mcons ?_ | refine w_mnil ?_ | refine w_asg ?_ | refine w_hval ?_ | refine w_var rfl ?_ | refine w_c ?_ | refine w_hslot rfl ?_ | refine w_acons ?_ | refine w_anil ?_ | refine w_op ?_ | refine w_un ?_ | refine w_fn ?_ | refine w_tup ?_ | refine w_lst ?_ | refine w_avals ?_ | refine w_alooks ?_ | refine w_callK ?_ | refine w_cut ?_ | refine w_pint ?_ | refine w_pno ?_ | refine w_bof ?_ | refine w_nx ?_ | refine w_ret ?_ | refine xT rfl (fitk (Nat.le_of_ble_eq_true rfl)) ?_ | refine x3 rfl rfl rfl ?_ | refine x2 rfl rfl ?_ | refine x2L rfl rfl ?_ | refine ⟨_, rfl, ?_⟩)
        refine ⟨_, _, _, rfl, append_ok (by simp; omega), ?_⟩
        refine w_drop (w_mut rfl ?_)
        repeat (first | refine w_seq ?_ | refine w_set ?_ | refine w_rt ?_ | refine w_drop ?_ | refine w_frz ?_ | refine w_multi ?_ | refine w_mcons ?_ | refine w_mnil ?_ | refine w_asg ?_ | refine w_hval ?_ | refine w_var rfl ?_ | refine w_c ?_ | refine w_hslot rfl ?_ | refine w_acons ?_ | refine w_anil ?_ | refine w_op ?_ | refine w_un ?_ | refine w_fn ?_ | refine w_tup ?_ | refine w_lst ?_ | refine w_avals ?_ | refine w_alooks ?_ | refine w_callK ?_ | refine w_cut ?_ | refine w_pint ?_ | refine w_pno ?_ | refine w_bof ?_ | refine w_nx ?_ | refine w_ret ?_ | refine xT rfl (fitk (Nat.le_of_ble_eq_true rfl)) ?_ | refine x3 rfl rfl rfl ?_ | refine x2 rfl rfl ?_ | refine x2L rfl rfl ?_ | refine ⟨_, rfl, ?_⟩)
        refine ⟨_, _, _, rfl, append_ok (by simp; omega), ?_⟩
        refine ⟨fd' ++ [r.1], wt' ++ [r.1], some (.int (r.1 : Nat)), some (.tup r.2.1), some (.tup r.2.2), ?_, I2, fun y hy => by simp [hsub y hy], ?_, ?_, ?_, ?_⟩
        · unfold mC nsD
          rw [List.map_append, List.map_append]
          rfl
        · intro y hy
          rcases List.mem_append.mp hy with z | z
          · simp [hw' y z]
          · simp [List.mem_singleton.mp z]
        · intro y hy hn2 hne g hg
          rw [List.mem_append, not_or] at hn2
          rcases List.mem_append.mp hy with z | z
          · exact List.mem_append_left _ (hc' y z hn2.1 hne g hg)
          · exact absurd z hn2.2
        · rw [List.length_append, List.length_singleton, htk]
          intro r2 hr2
          rcases List.mem_append.mp hr2 with z | z
          · exact List.mem_append_left _ (hdn r2 z)
          · rw [List.mem_singleton.mp z]; simp
        · rw [List.length_append, List.length_append, List.length_singleton]
          omega
      · have hn : r.1 ∈ fd' := by
          have := of_decide_eq_false hb
          exact Decidable.not_not.mp this
        refine w_nx ?_
        refine ⟨fd', wt', some (.int (r.1 : Nat)), some (.tup r.2.1), some (.tup r.2.2), rfl, I', hsub, hw', hc', ?_, hms⟩
        rw [List.length_append, List.length_singleton, htk]
        intro r2 hr2
        rcases List.mem_append.mp hr2 with z | z
        · exact hdn r2 z
        · rw [List.mem_singleton.mp z]; exact hn
    · rintro m2 ⟨fd', wt', b3, b4, b5, rfl, I', hsub, hw', hc', hdn, hms⟩
      rw [List.length_map, List.take_length] at hdn
      rw [List.length_append, List.length_singleton] at hkb
      refine ⟨_, ?_, fd', wt', b3, b4, b5, rfl, I', hw', ?_, rfl, by omega⟩
      · rw [List.length_append, List.length_singleton]; omega
      · intro y hy hn g hg
        by_cases hyx : y = x
        · subst hyx
          unfold goals at hg
          rw [hs] at hg
          obtain ⟨r, hr, rfl⟩ := List.mem_map.mp hg
          exact hdn r hr
        · exact hc' y hy hn hyx g hg
end Lk10

namespace Lk10
open PySem PySem.Spec L2 MI
/-! ### the law's own walk -/
def dc (fd : List Nat) : Nat := (uniq fd).length
theorem dc_le {n : Nat} {fd : List Nat} (h : ∀ x ∈ fd, x < n) : dc fd ≤ n := by
  have := nodup_le (m := List.range n) (uniq_nodup fd) fun x hx => List.mem_range.mpr (h x (uniq_mem.mp hx))
  rwa [List.length_range] at this
theorem dc_more {fd new : List Nat} {x : Nat} (hx : x ∈ new) (hn : x ∉ fd) : dc fd + 1 ≤ dc (fd ++ new) := by
  have := nodup_le (l := x :: uniq fd) (m := uniq (fd ++ new)) (List.nodup_cons.mpr ⟨fun z => hn (uniq_mem.mp z), uniq_nodup fd⟩) fun y hy => by
    rw [uniq_mem]
    rcases List.mem_cons.mp hy with rfl | hy
    · exact List.mem_append_right _ hx
    · exact List.mem_append_left _ (uniq_mem.mp hy)
  rwa [List.length_cons] at this
structure LI (sts : List Lk10.St) (fd : List Nat) : Prop where
  z : 0 ∈ fd
  r : ∀ x ∈ fd, Rch sts x
  l : fd.length ≤ 25 * dc fd
def Cls (sts : List Lk10.St) (fd : List Nat) : Prop := ∀ x ∈ fd, ∀ g ∈ goals sts x, g ∈ fd
abbrev mD (ws : List Str) (sts : List Lk10.St) (fd : List Nat) (a2 a3 a4 a5 a6 : Option D) (st : Sto) : MS := ⟨[some (mcD ws sts), some (.lst (nsD fd)), a2, a3, a4, a5, a6], st⟩
theorem ints_ns : ∀ (fd : List Nat), ints? (nsD fd) = some (fd.map fun x : Nat => (x : Int))
  | [] => rfl
  | x :: fd => by
    show ints? (D.int (x : Nat) :: nsD fd) = _
    rw [ints?, ints_ns fd]
    rfl
theorem law_reached_ok {ws : List Str} {sts : List Lk10.St} (M : MOk ws sts) {st : Sto} : FS fn__law_reached [mcD ws sts] st fun d st' => Told sts d ∧ st' = st := by
  have s1 := M.s1
  have s0 := M.s0
  refine fs_run ?_
  unfold d__law_reached
  repeat (first | refine w_seq ?_ | refine w_set ?_ | refine w_rt ?_ | refine w_drop ?_ | refine w_frz ?_ | refine w_multi ?_ | refine w_mcons ?_ | refine w_mnil ?_ | refine w_asg ?_ | refine w_hval ?_ | refine w_var rfl ?_ | refine w_c ?_ | refine w_hslot rfl ?_ | refine w_acons ?_ | refine w_anil ?_ | refine w_op ?_ | refine w_un ?_ | refine w_fn ?_ | refine w_tup ?_ | refine w_lst ?_ | refine w_avals ?_ | refine w_alooks ?_ | refine w_callK ?_ | refine w_cut ?_ | refine w_pint ?_ | refine w_pno ?_ | refine w_bof ?_ | refine w_nx ?_ | refine w_ret ?_ | refine xT rfl (fitk (Nat.le_of_ble_eq_true rfl)) ?_ | refine x3 rfl rfl rfl ?_ | refine x2 rfl rfl ?_ | refine x2L rfl rfl ?_ | refine ⟨_, rfl, ?_⟩)
  show W _ (mD ws sts [0] none none none none none st) _
  refine w_for (fun _ done m => ∃ (fd : List Nat) (a2 a3 a4 a5 a6 : Option D), m = mD ws sts fd a2 a3 a4 a5 a6 st ∧ LI sts fd ∧ (Cls sts fd ∨ done.length + 1 ≤ dc fd)) ?_
  refine w_irange1 ?_
  repeat (first | refine w_seq ?_ | refine w_set ?_ | refine w_rt ?_ | refine w_drop ?_ | refine w_frz ?_ | refine w_multi ?_ | refine w_mcons ?_ | refine w_mnil ?_ | refine w_asg ?_ | refine w_hval ?_ | refine w_var rfl ?_ | refine w_c ?_ | refine w_hslot rfl ?_ | refine w_acons ?_ | refine w_anil ?_ | refine w_op ?_ | refine w_un ?_ | refine w_fn ?_ | refine w_tup ?_ | refine w_lst ?_ | refine w_avals ?_ | refine w_alooks ?_ | refine w_callK ?_ | refine w_cut ?_ | refine w_pint ?_ | refine w_pno ?_ | refine w_bof ?_ | refine w_nx ?_ | refine w_ret ?_ | refine xT rfl (fitk (Nat.le_of_ble_eq_true rfl)) ?_ | refine x3 rfl rfl rfl ?_ | refine x2 rfl rfl ?_ | refine x2L rfl rfl ?_ | refine ⟨_, rfl, ?_⟩)
  refine ⟨small_ok (by simp; omega) (by simp; omega), ⟨[0], none, none, none, none, none, rfl, ⟨by simp, by simp; exact .zero, by decide⟩, .inr (by decide)⟩, ?_, ?_⟩
  · rintro done d rest m2 he ⟨fd0, a2, a3, a4, a5, a6, rfl, I0, h0⟩
    refine ⟨_, rfl, ?_⟩
    refine w_for (fun _ done2 m => ∃ (fd : List Nat) (a3 a4 a5 a6 : Option D), m = mD ws sts fd (some d) a3 a4 a5 a6 st ∧ LI sts fd ∧ (∀ x ∈ fd0, x ∈ fd) ∧ (fd = fd0 ∨ dc fd0 + 1 ≤ dc fd) ∧ (Cls sts fd0 → fd = fd0) ∧ ∀ x ∈ fd0.take done2.length, ∀ g ∈ goals sts x, g ∈ fd) ?_
    refine w_iseq ?_
    repeat (first | refine w_seq ?_ | refine w_set ?_ | refine w_rt ?_ | refine w_drop ?_ | refine w_frz ?_ | refine w_multi ?_ | refine w_mcons ?_ | refine w_mnil ?_ | refine w_asg ?_ | refine w_hval ?_ | refine w_var rfl ?_ | refine w_c ?_ | refine w_hslot rfl ?_ | refine w_acons ?_ | refine w_anil ?_ | refine w_op ?_ | refine w_un ?_ | refine w_fn ?_ | refine w_tup ?_ | refine w_lst ?_ | refine w_avals ?_ | refine w_alooks ?_ | refine w_callK ?_ | refine w_cut ?_ | refine w_pint ?_ | refine w_pno ?_ | refine w_bof ?_ | refine w_nx ?_ | refine w_ret ?_ | refine xT rfl (fitk (Nat.le_of_ble_eq_true rfl)) ?_ | refine x3 rfl rfl rfl ?_ | refine x2 rfl rfl ?_ | refine x2L rfl rfl ?_ | refine ⟨_, rfl, ?_⟩)
    refine ⟨_, .inl rfl, ⟨fd0, a3, a4, a5, a6, rfl, I0, fun x hx => hx, .inl rfl, fun _ => rfl, by simp⟩, ?_, ?_⟩
    · rintro done2 d2 rest2 m3 he2 ⟨fd, b3, b4, b5, b6, rfl, I, hsub, hor, hcl, hdn⟩
      obtain ⟨x, hx, rfl⟩ := map_at he2
      have hx0 := List.mem_of_getElem? hx
      have hxr := I0.r x hx0
      have hxs := rch_lt M hxr
      obtain ⟨s, hs⟩ : ∃ s, sts[x]? = some s := ⟨_, List.getElem?_eq_getElem hxs⟩
      have hsl : s.2.length ≤ 25 := by
        rw [M.rl s (List.mem_of_getElem? hs)]
        exact lnT_len (M.fr s (List.mem_of_getElem? hs)) M.w1
      have hdc := dc_le fun y hy => rch_lt M (I.r y hy)
      have hil := I.l
      have hgl : goals sts x = s.2.map (·.1) := by unfold goals; rw [hs]
      refine ⟨_, rfl, ?_⟩
      refine w_drop (w_mut rfl ?_)
      refine w_alooks (w_acons (w_hval ?_))
      refine w_lc (fun _ done3 ys m => ∃ (c4 c5 c6 : Option D), m = mD ws sts fd (some d) (some (.int (x : Nat))) c4 c5 c6 st ∧ ys = nsD (((s.2.take done3.length).map (·.1)).filter fun g => decide (g ∉ fd))) ?_
      refine w_iseq ?_
      repeat (first | refine w_seq ?_ | refine w_set ?_ | refine w_rt ?_ | refine w_drop ?_ | refine w_frz ?_ | refine w_multi ?_ | refine w_mcons ?_ | refine w_mnil ?_ | refine w_asg ?_ | refine w_hval ?_ | refine w_var rfl ?_ | refine w_c ?_ | refine w_hslot rfl ?_ | refine w_acons ?_ | refine w_anil ?_ | refine w_op ?_ | refine w_un ?_ | refine w_fn ?_ | refine w_tup ?_ | refine w_lst ?_ | refine w_avals ?_ | refine w_alooks ?_ | refine w_callK ?_ | refine w_cut ?_ | refine w_pint ?_ | refine w_pno ?_ | refine w_bof ?_ | refine w_nx ?_ | refine w_ret ?_ | refine xT rfl (fitk (Nat.le_of_ble_eq_true rfl)) ?_ | refine x3 rfl rfl rfl ?_ | refine x2 rfl rfl ?_ | refine x2L rfl rfl ?_ | refine ⟨_, rfl, ?_⟩)
      refine x3 rfl rfl (ixT hs) ?_
      repeat (first | refine w_seq ?_ | refine w_set ?_ | refine w_rt ?_ | refine w_drop ?_ | refine w_frz ?_ | refine w_multi ?_ | refine w_mcons ?_ | refine w_mnil ?_ | refine w_asg ?_ | refine w_hval ?_ | refine w_var rfl ?_ | refine w_c ?_ | refine w_hslot rfl ?_ | refine w_acons ?_ | refine w_anil ?_ | refine w_op ?_ | refine w_un ?_ | refine w_fn ?_ | refine w_tup ?_ | refine w_lst ?_ | refine w_avals ?_ | refine w_alooks ?_ | refine w_callK ?_ | refine w_cut ?_ | refine w_pint ?_ | refine w_pno ?_ | refine w_bof ?_ | refine w_nx ?_ | refine w_ret ?_ | refine xT rfl (fitk (Nat.le_of_ble_eq_true rfl)) ?_ | refine x3 rfl rfl rfl ?_ | refine x2 rfl rfl ?_ | refine x2L rfl rfl ?_ | refine ⟨_, rfl, ?_⟩)
      refine ⟨_, .inr rfl, ⟨b4, b5, b6, rfl, rfl⟩, ?_, ?_⟩
      · rintro done3 d3 rest3 ys m4 he3 ⟨c4, c5, c6, rfl, rfl⟩
        obtain ⟨r, hr, rfl⟩ := map_at he3
        have hrk := M.rk s (List.mem_of_getElem? hs) r (List.mem_of_getElem? hr)
        have htk : s.2.take (done3.length + 1) = s.2.take done3.length ++ [r] := by rw [List.take_add_one, hr]; rfl
        refine ⟨_, rfl, ?_⟩
        repeat (first | refine w_seq ?_ | refine w_set ?_ | refine w_rt ?_ | refine w_drop ?_ | refine w_frz ?_ | refine w_multi ?_ | refine w_mcons ?_ | refine w_mnil ?_ | refine w_asg ?_ | refine w_hval ?_ | refine w_var rfl ?_ | refine w_c ?_ | refine w_hslot rfl ?_ | refine w_acons ?_ | refine w_anil ?_ | refine w_op ?_ | refine w_un ?_ | refine w_fn ?_ | refine w_tup ?_ | refine w_lst ?_ | refine w_avals ?_ | refine w_alooks ?_ | refine w_callK ?_ | refine w_cut ?_ | refine w_pint ?_ | refine w_pno ?_ | refine w_bof ?_ | refine w_nx ?_ | refine w_ret ?_ | refine xT rfl (fitk (Nat.le_of_ble_eq_true rfl)) ?_ | refine x3 rfl rfl rfl ?_ | refine x2 rfl rfl ?_ | refine x2L rfl rfl ?_ | refine ⟨_, rfl, ?_⟩)
        refine x3 rfl rfl (notin_ns (fun y hy => by have := rch_lt M (I.r y hy); omega) (by have := hrk.1; omega)) ?_
        refine ⟨_, rfl, fun hb => ?_, fun hb => ?_⟩
        · refine ⟨_, _, _, rfl, ?_⟩
          rw [List.length_append, List.length_singleton, htk, List.map_append, List.filter_append]
          have : List.filter (fun g => decide (g ∉ fd)) (List.map (fun (x : Rl) => x.1) [r]) = [] := by
            rw [List.map_singleton, List.filter_cons]
            rw [if_neg (by rw [hb]; simp)]
            rfl
          rw [this, List.append_nil]
        · repeat (first | refine w_seq ?_ | refine w_set ?_ | refine w_rt ?_ | refine w_drop ?_ | refine w_frz ?_ | refine w_multi ?_ | refine w_mcons ?_ | refine w_mnil ?_ | refine w_asg ?_ | refine w_hval ?_ | refine w_var rfl ?_ | refine w_c ?_ | refine w_hslot rfl ?_ | refine w_acons ?_ | refine w_anil ?_ | refine w_op ?_ | refine w_un ?_ | refine w_fn ?_ | refine w_tup ?_ | refine w_lst ?_ | refine w_avals ?_ | refine w_alooks ?_ | refine w_callK ?_ | refine w_cut ?_ | refine w_pint ?_ | refine w_pno ?_ | refine w_bof ?_ | refine w_nx ?_ | refine w_ret ?_ | refine xT rfl (fitk (Nat.le_of_ble_eq_true rfl)) ?_ | refine x3 rfl rfl rfl ?_ | refine x2 rfl rfl ?_ | refine x2L rfl rfl ?_ | refine ⟨_, rfl, ?_⟩)
          refine ⟨_, _, _, rfl, ?_⟩
          rw [List.length_append, List.length_singleton, htk, List.map_append, List.filter_append]
          have : List.filter (fun g => decide (g ∉ fd)) (List.map (fun (x : Rl) => x.1) [r]) = [r.1] := by
            rw [List.map_singleton, List.filter_cons]
            rw [if_pos hb]
            rfl
          rw [this]
          unfold nsD
          rw [List.map_append]
          rfl
      · rintro ys m4 ⟨c4, c5, c6, rfl, rfl⟩
        have etk : s.2.take (s.2.map rlD).length = s.2 := by rw [List.length_map, List.take_length]
        rw [etk]
        have hnew : (((s.2).map (fun (x : Rl) => x.1)).filter fun g => decide (g ∉ fd)).length ≤ 25 := Nat.le_trans (List.length_filter_le ..) (by rw [List.length_map]; exact hsl)
        have hmem : ∀ g, g ∈ (((s.2).map (fun (x : Rl) => x.1)).filter fun g => decide (g ∉ fd)) ↔ g ∈ goals sts x ∧ g ∉ fd := fun g => by rw [List.mem_filter, hgl, decide_eq_true_eq]
        generalize ((s.2).map (fun (x : Rl) => x.1)).filter (fun g => decide (g ∉ fd)) = new at hnew hmem
        refine ⟨fitk (by rw [List.length_map]; omega), ?_⟩
        repeat (first | refine w_seq ?_ | refine w_set ?_ | refine w_rt ?_ | refine w_drop ?_ | refine w_frz ?_ | refine w_multi ?_ | refine w_mcons ?_ | refine w_mnil ?_ | refine w_asg ?_ | refine w_hval ?_ | refine w_var rfl ?_ | refine w_c ?_ | refine w_hslot rfl ?_ | refine w_acons ?_ | refine w_anil ?_ | refine w_op ?_ | refine w_un ?_ | refine w_fn ?_ | refine w_tup ?_ | refine w_lst ?_ | refine w_avals ?_ | refine w_alooks ?_ | refine w_callK ?_ | refine w_cut ?_ | refine w_pint ?_ | refine w_pno ?_ | refine w_bof ?_ | refine w_nx ?_ | refine w_ret ?_ | refine xT rfl (fitk (Nat.le_of_ble_eq_true rfl)) ?_ | refine x3 rfl rfl rfl ?_ | refine x2 rfl rfl ?_ | refine x2L rfl rfl ?_ | refine ⟨_, rfl, ?_⟩)
        refine ⟨_, _, _, rfl, extend_ok (by rw [List.length_map, List.length_map]; omega), ?_⟩
        have hall : ∀ g ∈ goals sts x, g ∈ fd ++ new := fun g hg => by
          by_cases hgf : g ∈ fd
          · exact List.mem_append_left _ hgf
          · exact List.mem_append_right _ ((hmem g).mpr ⟨hg, hgf⟩)
        have htk : fd0.take (done2.length + 1) = fd0.take done2.length ++ [x] := by rw [List.take_add_one, hx]; rfl
        refine ⟨fd ++ new, some (.int (x : Nat)), b4, b5, b6, ?_, ⟨List.mem_append_left _ I.z, ?_, ?_⟩, fun y hy => List.mem_append_left _ (hsub y hy), ?_, ?_, ?_⟩
        · unfold mD nsD
          rw [List.map_append]
          rfl
        · intro y hy
          rcases List.mem_append.mp hy with z | z
          · exact I.r y z
          · exact .step hxr ((hmem y).mp z).1
        · cases new with
          | nil => rw [List.append_nil]; exact I.l
          | cons y ns2 =>
            have := dc_more (fd := fd) (new := y :: ns2) (List.mem_cons_self ..) ((hmem y).mp (List.mem_cons_self ..)).2
            rw [List.length_append]
            omega
        · cases new with
          | nil => rw [List.append_nil]; exact hor
          | cons y ns2 =>
            have := dc_more (fd := fd) (new := y :: ns2) (List.mem_cons_self ..) ((hmem y).mp (List.mem_cons_self ..)).2
            right
            rcases hor with rfl | hor <;> omega
        · intro hc
          have := hcl hc
          subst this
          cases new with
          | nil => rw [List.append_nil]
          | cons y ns2 =>
            have := (hmem y).mp (List.mem_cons_self ..)
            exact absurd (hc x hx0 y this.1) this.2
        · rw [List.length_append, List.length_singleton, htk]
          intro y hy g hg
          rcases List.mem_append.mp hy with z | z
          · exact List.mem_append_left _ (hdn y z g hg)
          · rw [List.mem_singleton.mp z] at hg
            exact hall g hg
    · rintro m3 ⟨fd, b3, b4, b5, b6, rfl, I, hsub, hor, hcl, hdn⟩
      rw [List.length_map, List.take_length] at hdn
      refine ⟨fd, _, b3, b4, b5, b6, rfl, I, ?_⟩
      rcases hor with rfl | hor
      · exact .inl hdn
      · rcases h0 with h0 | h0
        · have := hcl h0
          subst this
          exact .inl h0
        · right
          rw [List.length_append, List.length_singleton]
          omega
  rintro m2 ⟨fd, a2, a3, a4, a5, a6, rfl, I, h0⟩
  have hlt : ∀ y ∈ fd, y < sts.length := fun y hy => rch_lt M (I.r y hy)
  have hdc := dc_le hlt
  have hil := I.l
  have hc : Cls sts fd := by
    rcases h0 with h0 | h0
    · exact h0
    · rw [rangeD_len, List.length_map] at h0
      omega
  repeat (first | refine w_seq ?_ | refine w_set ?_ | refine w_rt ?_ | refine w_drop ?_ | refine w_frz ?_ | refine w_multi ?_ | refine w_mcons ?_ | refine w_mnil ?_ | refine w_asg ?_ | refine w_hval ?_ | refine w_var rfl ?_ | refine w_c ?_ | refine w_hslot rfl ?_ | refine w_acons ?_ | refine w_anil ?_ | refine w_op ?_ | refine w_un ?_ | refine w_fn ?_ | refine w_tup ?_ | refine w_lst ?_ | refine w_avals ?_ | refine w_alooks ?_ | refine w_callK ?_ | refine w_cut ?_ | refine w_pint ?_ | refine w_pno ?_ | refine w_bof ?_ | refine w_nx ?_ | refine w_ret ?_ | refine xT rfl (fitk (Nat.le_of_ble_eq_true rfl)) ?_ | refine x3 rfl rfl rfl ?_ | refine x2 rfl rfl ?_ | refine x2L rfl rfl ?_ | refine ⟨_, rfl, ?_⟩)
  have hsl : (srtU (fd.map fun x : Nat => (x : Int))).length ≤ sts.length := by
    have := nodup_le (m := (List.range sts.length).map fun x : Nat => (x : Int)) (List.Pairwise.imp (fun {a b : Int} (h : a < b) => by omega) (srtU_lt (fd.map fun x : Nat => (x : Int)))) fun x hx => by
      obtain ⟨y, hy, rfl⟩ := List.mem_map.mp (srtU_mem.mp hx)
      exact List.mem_map.mpr ⟨y, List.mem_range.mpr (hlt y hy), rfl⟩
    rwa [List.length_map, List.length_range] at this
  have e : gSortSet (.lst (nsD fd)) = some (.lst ((srtU (fd.map fun x : Nat => (x : Int))).map .int)) := by
    show (match ints? (nsD fd) with | some ns => if ns.length < 1000 ∧ (srtU ns).length < 64 then some (D.lst ((srtU ns).map .int)) else none | none => none) = _
    rw [ints_ns]
    exact if_pos ⟨by rw [List.length_map]; omega, by omega⟩
  refine x2 rfl e ?_
  repeat (first | refine w_seq ?_ | refine w_set ?_ | refine w_rt ?_ | refine w_drop ?_ | refine w_frz ?_ | refine w_multi ?_ | refine w_mcons ?_ | refine w_mnil ?_ | refine w_asg ?_ | refine w_hval ?_ | refine w_var rfl ?_ | refine w_c ?_ | refine w_hslot rfl ?_ | refine w_acons ?_ | refine w_anil ?_ | refine w_op ?_ | refine w_un ?_ | refine w_fn ?_ | refine w_tup ?_ | refine w_lst ?_ | refine w_avals ?_ | refine w_alooks ?_ | refine w_callK ?_ | refine w_cut ?_ | refine w_pint ?_ | refine w_pno ?_ | refine w_bof ?_ | refine w_nx ?_ | refine w_ret ?_ | refine xT rfl (fitk (Nat.le_of_ble_eq_true rfl)) ?_ | refine x3 rfl rfl rfl ?_ | refine x2 rfl rfl ?_ | refine x2L rfl rfl ?_ | refine ⟨_, rfl, ?_⟩)
  exact ⟨told_of I.z I.r hc (srtU_lt _) fun z => srtU_mem, rfl⟩
end Lk10

namespace Lk10
open PySem PySem.Spec L2 MI
/-! ### a goal cut off -/
abbrev mE (n : Nat) (ws : List Str) (sts : List Lk10.St) (r : Int) (new : List Lk10.St) (a4 a5 a6 a7 a8 a9 : Option D) (st : Sto) : MS := ⟨[some (.obj n), some (mcD ws sts), some (.int r), some (.lst (new.map stD)), a4, a5, a6, a7, a8, a9], st⟩
theorem cut_ok {ws : List Str} {sts : List Lk10.St} (M : MOk ws sts) {st : Sto} {n N : Nat} {P : D → Sto → Prop} (h : HB st n N) (hN : N ≤ 100000) (k : ∀ sts' st', MOk ws sts' → HB st' n (N + 1) → P (mcD ws sts') st') : FS fn__law_cut [.obj n, mcD ws sts] st P := by
  have s1 := M.s1
  have s0 := M.s0
  refine fs_run ?_
  unfold d__law_cut
  repeat (first | refine w_seq ?_ | refine w_set ?_ | refine w_rt ?_ | refine w_drop ?_ | refine w_frz ?_ | refine w_multi ?_ | refine w_mcons ?_ | refine w_mnil ?_ | refine w_asg ?_ | refine w_hval ?_ | refine w_var rfl ?_ | refine w_c ?_ | refine w_hslot rfl ?_ | refine w_acons ?_ | refine w_anil ?_ | refine w_op ?_ | refine w_un ?_ | refine w_fn ?_ | refine w_tup ?_ | refine w_lst ?_ | refine w_avals ?_ | refine w_alooks ?_ | refine w_callK ?_ | refine w_cut ?_ | refine w_pint ?_ | refine w_pno ?_ | refine w_bof ?_ | refine w_nx ?_ | refine w_ret ?_ | refine xT rfl (fitk (Nat.le_of_ble_eq_true rfl)) ?_ | refine x3 rfl rfl rfl ?_ | refine x2 rfl rfl ?_ | refine x2L rfl rfl ?_ | refine ⟨_, rfl, ?_⟩)
  refine fs_take (many := ((sts.map stD).length : Nat)) h (by omega) (by rw [List.length_map]; omega) (by rw [List.length_map]; omega) fun r st1 r0 r1 h1 => ?_
  rw [List.length_map] at r1
  repeat (first | refine w_seq ?_ | refine w_set ?_ | refine w_rt ?_ | refine w_drop ?_ | refine w_frz ?_ | refine w_multi ?_ | refine w_mcons ?_ | refine w_mnil ?_ | refine w_asg ?_ | refine w_hval ?_ | refine w_var rfl ?_ | refine w_c ?_ | refine w_hslot rfl ?_ | refine w_acons ?_ | refine w_anil ?_ | refine w_op ?_ | refine w_un ?_ | refine w_fn ?_ | refine w_tup ?_ | refine w_lst ?_ | refine w_avals ?_ | refine w_alooks ?_ | refine w_callK ?_ | refine w_cut ?_ | refine w_pint ?_ | refine w_pno ?_ | refine w_bof ?_ | refine w_nx ?_ | refine w_ret ?_ | refine xT rfl (fitk (Nat.le_of_ble_eq_true rfl)) ?_ | refine x3 rfl rfl rfl ?_ | refine x2 rfl rfl ?_ | refine x2L rfl rfl ?_ | refine ⟨_, rfl, ?_⟩)
  show W _ (mE n ws sts r [] none none none none none none st1) _
  refine w_for (fun _ done m => ∃ (new : List Lk10.St) (a4 a5 a6 a7 a8 a9 : Option D), m = mE n ws sts r new a4 a5 a6 a7 a8 a9 st1 ∧ new.length = done.length ∧ (∀ s ∈ new, s.1 ∈ FR) ∧ (∀ s ∈ new, s.2.length = (lnT ws s.1).length) ∧ (∀ s ∈ new, ∀ r ∈ s.2, rOk sts.length r)) ?_
  refine w_iseq ?_
  repeat (first | refine w_seq ?_ | refine w_set ?_ | refine w_rt ?_ | refine w_drop ?_ | refine w_frz ?_ | refine w_multi ?_ | refine w_mcons ?_ | refine w_mnil ?_ | refine w_asg ?_ | refine w_hval ?_ | refine w_var rfl ?_ | refine w_c ?_ | refine w_hslot rfl ?_ | refine w_acons ?_ | refine w_anil ?_ | refine w_op ?_ | refine w_un ?_ | refine w_fn ?_ | refine w_tup ?_ | refine w_lst ?_ | refine w_avals ?_ | refine w_alooks ?_ | refine w_callK ?_ | refine w_cut ?_ | refine w_pint ?_ | refine w_pno ?_ | refine w_bof ?_ | refine w_nx ?_ | refine w_ret ?_ | refine xT rfl (fitk (Nat.le_of_ble_eq_true rfl)) ?_ | refine x3 rfl rfl rfl ?_ | refine x2 rfl rfl ?_ | refine x2L rfl rfl ?_ | refine ⟨_, rfl, ?_⟩)
  refine ⟨_, .inr rfl, ⟨[], none, none, none, none, none, none, rfl, rfl, by simp, by simp, by simp⟩, ?_, ?_⟩
  · rintro done d rest m2 he ⟨new, a4, a5, a6, a7, a8, a9, rfl, hl, hf, hr, hk⟩
    have hdl : done.length < sts.length := by
      have := congrArg List.length he
      rw [List.length_append, List.length_cons, List.length_map] at this
      omega
    obtain ⟨s, hs, rfl⟩ := map_at he
    have hsm := List.mem_of_getElem? hs
    have hsl : s.2.length ≤ 25 := by
      rw [M.rl s hsm]
      exact lnT_len (M.fr s hsm) M.w1
    refine ⟨_, rfl, ?_⟩
    refine w_seq (w_set ?_)
    refine w_lc (fun _ done2 ys m => ∃ (rs : List Rl) (a7 a8 a9 : Option D), m = mE n ws sts r new (some (frD s.1)) (some (.tup (s.2.map rlD))) a6 a7 a8 a9 st1 ∧ ys = rs.map rlD ∧ rs.length = done2.length ∧ ∀ r ∈ rs, rOk sts.length r) ?_
    refine w_iseq ?_
    repeat (first | refine w_seq ?_ | refine w_set ?_ | refine w_rt ?_ | refine w_drop ?_ | refine w_frz ?_ | refine w_multi ?_ | refine w_mcons ?_ | refine w_mnil ?_ | refine w_asg ?_ | refine w_hval ?_ | refine w_var rfl ?_ | refine w_c ?_ | refine w_hslot rfl ?_ | refine w_acons ?_ | refine w_anil ?_ | refine w_op ?_ | refine w_un ?_ | refine w_fn ?_ | refine w_tup ?_ | refine w_lst ?_ | refine w_avals ?_ | refine w_alooks ?_ | refine w_callK ?_ | refine w_cut ?_ | refine w_pint ?_ | refine w_pno ?_ | refine w_bof ?_ | refine w_nx ?_ | refine w_ret ?_ | refine xT rfl (fitk (Nat.le_of_ble_eq_true rfl)) ?_ | refine x3 rfl rfl rfl ?_ | refine x2 rfl rfl ?_ | refine x2L rfl rfl ?_ | refine ⟨_, rfl, ?_⟩)
    refine ⟨_, .inr rfl, ⟨[], a7, a8, a9, rfl, rfl, rfl, by simp⟩, ?_, ?_⟩
    · rintro done2 d rest2 ys m3 he2 ⟨rs, b7, b8, b9, rfl, rfl, hrl, hrk⟩
      obtain ⟨q, hq, rfl⟩ := map_at he2
      have hqk := M.rk s hsm q (List.mem_of_getElem? hq)
      refine ⟨_, rfl, w_ret ⟨(fun z => nomatch z), fun _ => ?_⟩⟩
      refine w_eif ?_
      obtain ⟨c, ec, hc⟩ := kd_eq (small_int (i := (q.1 : Nat)) (by omega) (by have := hqk.1; omega) (n := 0)) (small_int (i := r) (by omega) (by omega) (n := 0))
      repeat (first | refine w_seq ?_ | refine w_set ?_ | refine w_rt ?_ | refine w_drop ?_ | refine w_frz ?_ | refine w_multi ?_ | refine w_mcons ?_ | refine w_mnil ?_ | refine w_asg ?_ | refine w_hval ?_ | refine w_var rfl ?_ | refine w_c ?_ | refine w_hslot rfl ?_ | refine w_acons ?_ | refine w_anil ?_ | refine w_op ?_ | refine w_un ?_ | refine w_fn ?_ | refine w_tup ?_ | refine w_lst ?_ | refine w_avals ?_ | refine w_alooks ?_ | refine w_callK ?_ | refine w_cut ?_ | refine w_pint ?_ | refine w_pno ?_ | refine w_bof ?_ | refine w_nx ?_ | refine w_ret ?_ | refine xT rfl (fitk (Nat.le_of_ble_eq_true rfl)) ?_ | refine x3 rfl rfl rfl ?_ | refine x2 rfl rfl ?_ | refine x2L rfl rfl ?_ | refine ⟨_, rfl, ?_⟩)
      refine ⟨fun _ => ?_, fun _ => ?_⟩
      · repeat (first | refine w_seq ?_ | refine w_set ?_ | refine w_rt ?_ | refine w_drop ?_ | refine w_frz ?_ | refine w_multi ?_ | refine w_mcons ?_ | refine w_mnil ?_ | refine w_asg ?_ | refine w_hval ?_ | refine w_var rfl ?_ | refine w_c ?_ | refine w_hslot rfl ?_ | refine w_acons ?_ | refine w_anil ?_ | refine w_op ?_ | refine w_un ?_ | refine w_fn ?_ | refine w_tup ?_ | refine w_lst ?_ | refine w_avals ?_ | refine w_alooks ?_ | refine w_callK ?_ | refine w_cut ?_ | refine w_pint ?_ | refine w_pno ?_ | refine w_bof ?_ | refine w_nx ?_ | refine w_ret ?_ | refine xT rfl (fitk (Nat.le_of_ble_eq_true rfl)) ?_ | refine x3 rfl rfl rfl ?_ | refine x2 rfl rfl ?_ | refine x2L rfl rfl ?_ | refine ⟨_, rfl, ?_⟩)
        refine ⟨rs ++ [(0, [], q.2.2)], some (.int (q.1 : Nat)), some (.tup q.2.1), some (.tup q.2.2), rfl, (by simp), by simp [hrl], fun x hx => ?_⟩
        rcases List.mem_append.mp hx with z | z
        · exact hrk x z
        · rw [List.mem_singleton.mp z]
          exact ⟨by omega, (Kd.tup (n := 0) (ds := []) (by simp)).mono (by decide), hqk.2.2⟩
      · repeat (first | refine w_seq ?_ | refine w_set ?_ | refine w_rt ?_ | refine w_drop ?_ | refine w_frz ?_ | refine w_multi ?_ | refine w_mcons ?_ | refine w_mnil ?_ | refine w_asg ?_ | refine w_hval ?_ | refine w_var rfl ?_ | refine w_c ?_ | refine w_hslot rfl ?_ | refine w_acons ?_ | refine w_anil ?_ | refine w_op ?_ | refine w_un ?_ | refine w_fn ?_ | refine w_tup ?_ | refine w_lst ?_ | refine w_avals ?_ | refine w_alooks ?_ | refine w_callK ?_ | refine w_cut ?_ | refine w_pint ?_ | refine w_pno ?_ | refine w_bof ?_ | refine w_nx ?_ | refine w_ret ?_ | refine xT rfl (fitk (Nat.le_of_ble_eq_true rfl)) ?_ | refine x3 rfl rfl rfl ?_ | refine x2 rfl rfl ?_ | refine x2L rfl rfl ?_ | refine ⟨_, rfl, ?_⟩)
        refine ⟨rs ++ [q], some (.int (q.1 : Nat)), some (.tup q.2.1), some (.tup q.2.2), rfl, (by simp), by simp [hrl], fun x hx => ?_⟩
        rcases List.mem_append.mp hx with z | z
        · exact hrk x z
        · rw [List.mem_singleton.mp z]
          exact hqk
    rintro ys m3 ⟨rs, b7, b8, b9, rfl, rfl, hrl, hrk⟩
    rw [List.length_map] at hrl
    refine ⟨fitk (by rw [List.length_map]; omega), ?_⟩
    show W _ (mE n ws sts r new (some (frD s.1)) (some (.tup (s.2.map rlD))) (some (.lst (rs.map rlD))) a7 a8 a9 st1) _
    refine w_drop (w_mut rfl ?_)
    repeat (first | refine w_seq ?_ | refine w_set ?_ | refine w_rt ?_ | refine w_drop ?_ | refine w_frz ?_ | refine w_multi ?_ | refine w_mcons ?_ | refine w_mnil ?_ | refine w_asg ?_ | refine w_hval ?_ | refine w_var rfl ?_ | refine w_c ?_ | refine w_hslot rfl ?_ | refine w_acons ?_ | refine w_anil ?_ | refine w_op ?_ | refine w_un ?_ | refine w_fn ?_ | refine w_tup ?_ | refine w_lst ?_ | refine w_avals ?_ | refine w_alooks ?_ | refine w_callK ?_ | refine w_cut ?_ | refine w_pint ?_ | refine w_pno ?_ | refine w_bof ?_ | refine w_nx ?_ | refine w_ret ?_ | refine xT rfl (fitk (Nat.le_of_ble_eq_true rfl)) ?_ | refine x3 rfl rfl rfl ?_ | refine x2 rfl rfl ?_ | refine x2L rfl rfl ?_ | refine ⟨_, rfl, ?_⟩)
    refine ⟨_, _, _, rfl, append_ok (by rw [List.length_map]; omega), ?_⟩
    refine ⟨new ++ [(s.1, rs)], some (frD s.1), some (.tup (s.2.map rlD)), some (.lst (rs.map rlD)), a7, a8, a9, by unfold mE; rw [List.map_append]; rfl, by simp [hl], ?_, ?_, ?_⟩
    · intro x hx
      rcases List.mem_append.mp hx with z | z
      · exact hf x z
      · rw [List.mem_singleton.mp z]; exact M.fr s hsm
    · intro x hx
      rcases List.mem_append.mp hx with z | z
      · exact hr x z
      · rw [List.mem_singleton.mp z, ← M.rl s hsm]; exact hrl
    · intro x hx
      rcases List.mem_append.mp hx with z | z
      · exact hk x z
      · rw [List.mem_singleton.mp z]; exact hrk
  rintro m2 ⟨new, a4, a5, a6, a7, a8, a9, rfl, hl, hf, hr, hk⟩
  rw [List.length_map] at hl
  repeat (first | refine w_seq ?_ | refine w_set ?_ | refine w_rt ?_ | refine w_drop ?_ | refine w_frz ?_ | refine w_multi ?_ | refine w_mcons ?_ | refine w_mnil ?_ | refine w_asg ?_ | refine w_hval ?_ | refine w_var rfl ?_ | refine w_c ?_ | refine w_hslot rfl ?_ | refine w_acons ?_ | refine w_anil ?_ | refine w_op ?_ | refine w_un ?_ | refine w_fn ?_ | refine w_tup ?_ | refine w_lst ?_ | refine w_avals ?_ | refine w_alooks ?_ | refine w_callK ?_ | refine w_cut ?_ | refine w_pint ?_ | refine w_pno ?_ | refine w_bof ?_ | refine w_nx ?_ | refine w_ret ?_ | refine xT rfl (fitk (Nat.le_of_ble_eq_true rfl)) ?_ | refine x3 rfl rfl rfl ?_ | refine x2 rfl rfl ?_ | refine x2L rfl rfl ?_ | refine ⟨_, rfl, ?_⟩)
  refine k new _ ⟨M.wd, M.w0, M.w1, by omega, by omega, hf, hr, ?_⟩ h1
  rw [hl]
  exact hk
/-! ### what is asked once -/
abbrev mG (n : Nat) (ws : List Str) (sts : List Lk10.St) (a4 a5 a6 a7 a8 a9 a10 : Option D) (st : Sto) : MS := ⟨[some (.obj n), some (mcD ws sts), some (wsD ws), some (.tup (sts.map stD)), a4, a5, a6, a7, a8, a9, a10], st⟩
theorem kd_lines {ws : List Str} {f : Fr} (hf : f ∈ FR) (hw : Wd ws) : Kd 3 (.tup ((lnT ws f).map lnE)) := Kd.tup fun d hd => by
  obtain ⟨x, hx, rfl⟩ := List.mem_map.mp hd
  exact lnE_kd hf hw hx
theorem kd_rl {n : Nat} {r : Rl} (h : rOk n r) (hn : n ≤ 100) : Kd 6 (rlD r) := Kd.tup fun d hd => by
  simp only [List.mem_cons, List.not_mem_nil, or_false] at hd
  rcases hd with rfl | rfl | rfl
  · exact small_int (by omega) (by have := h.1; omega)
  · exact h.2.1
  · exact h.2.2
theorem right_ok {st : Sto} {n : Nat} (h : HB st n 0) : FS fn__law_right [.obj n] st fun d _ => d = .bl true := by
  refine fs_run ?_
  unfold d__law_right
  repeat (first | refine w_seq ?_ | refine w_set ?_ | refine w_rt ?_ | refine w_drop ?_ | refine w_frz ?_ | refine w_multi ?_ | refine w_mcons ?_ | refine w_mnil ?_ | refine w_asg ?_ | refine w_hval ?_ | refine w_var rfl ?_ | refine w_c ?_ | refine w_hslot rfl ?_ | refine w_acons ?_ | refine w_anil ?_ | refine w_op ?_ | refine w_un ?_ | refine w_fn ?_ | refine w_tup ?_ | refine w_lst ?_ | refine w_avals ?_ | refine w_alooks ?_ | refine w_callK ?_ | refine w_cut ?_ | refine w_pint ?_ | refine w_pno ?_ | refine w_bof ?_ | refine w_nx ?_ | refine w_ret ?_ | refine xT rfl (fitk (Nat.le_of_ble_eq_true rfl)) ?_ | refine x3 rfl rfl rfl ?_ | refine x2 rfl rfl ?_ | refine x2L rfl rfl ?_ | refine ⟨_, rfl, ?_⟩)
  refine machine_ok h (by omega) (by decide) (by decide) (by decide) (by decide) fun ws sts st1 M h1 => ?_
  have s1 := M.s1
  repeat (first | refine w_seq ?_ | refine w_set ?_ | refine w_rt ?_ | refine w_drop ?_ | refine w_frz ?_ | refine w_multi ?_ | refine w_mcons ?_ | refine w_mnil ?_ | refine w_asg ?_ | refine w_hval ?_ | refine w_var rfl ?_ | refine w_c ?_ | refine w_hslot rfl ?_ | refine w_acons ?_ | refine w_anil ?_ | refine w_op ?_ | refine w_un ?_ | refine w_fn ?_ | refine w_tup ?_ | refine w_lst ?_ | refine w_avals ?_ | refine w_alooks ?_ | refine w_callK ?_ | refine w_cut ?_ | refine w_pint ?_ | refine w_pno ?_ | refine w_bof ?_ | refine w_nx ?_ | refine w_ret ?_ | refine xT rfl (fitk (Nat.le_of_ble_eq_true rfl)) ?_ | refine x3 rfl rfl rfl ?_ | refine x2 rfl rfl ?_ | refine x2L rfl rfl ?_ | refine ⟨_, rfl, ?_⟩)
  show W _ (mG n ws sts none none none none none none none st1) _
  refine w_for (fun _ done m => ∃ (a4 a5 a6 a7 a8 a9 a10 : Option D), m = mG n ws sts a4 a5 a6 a7 a8 a9 a10 st1) ?_
  refine w_ienum ?_
  repeat (first | refine w_seq ?_ | refine w_set ?_ | refine w_rt ?_ | refine w_drop ?_ | refine w_frz ?_ | refine w_multi ?_ | refine w_mcons ?_ | refine w_mnil ?_ | refine w_asg ?_ | refine w_hval ?_ | refine w_var rfl ?_ | refine w_c ?_ | refine w_hslot rfl ?_ | refine w_acons ?_ | refine w_anil ?_ | refine w_op ?_ | refine w_un ?_ | refine w_fn ?_ | refine w_tup ?_ | refine w_lst ?_ | refine w_avals ?_ | refine w_alooks ?_ | refine w_callK ?_ | refine w_cut ?_ | refine w_pint ?_ | refine w_pno ?_ | refine w_bof ?_ | refine w_nx ?_ | refine w_ret ?_ | refine xT rfl (fitk (Nat.le_of_ble_eq_true rfl)) ?_ | refine x3 rfl rfl rfl ?_ | refine x2 rfl rfl ?_ | refine x2L rfl rfl ?_ | refine ⟨_, rfl, ?_⟩)
  refine ⟨sts.map stD, .inr rfl, ⟨none, none, none, none, none, none, none, rfl⟩, ?_, ?_⟩
  · rintro done d rest m2 he ⟨a4, a5, a6, a7, a8, a9, a10, rfl⟩
    obtain ⟨s, hs, rfl⟩ := enum_at he
    have hsm := List.mem_of_getElem? hs
    have hf := M.fr s hsm
    have hw0 : 1 ≤ (ws.map D.str).length := by rw [List.length_map]; exact M.w0
    have hw1 : (ws.map D.str).length ≤ 3 := by rw [List.length_map]; exact M.w1
    refine ⟨_, rfl, ?_⟩
    show W _ (mG n ws sts (some (.int (done.length : Nat))) (some (frD s.1)) (some (.tup (s.2.map rlD))) a7 a8 a9 a10 st1) _
    repeat (first | refine w_seq ?_ | refine w_set ?_ | refine w_rt ?_ | refine w_drop ?_ | refine w_frz ?_ | refine w_multi ?_ | refine w_mcons ?_ | refine w_mnil ?_ | refine w_asg ?_ | refine w_hval ?_ | refine w_var rfl ?_ | refine w_c ?_ | refine w_hslot rfl ?_ | refine w_acons ?_ | refine w_anil ?_ | refine w_op ?_ | refine w_un ?_ | refine w_fn ?_ | refine w_tup ?_ | refine w_lst ?_ | refine w_avals ?_ | refine w_alooks ?_ | refine w_callK ?_ | refine w_cut ?_ | refine w_pint ?_ | refine w_pno ?_ | refine w_bof ?_ | refine w_nx ?_ | refine w_ret ?_ | refine xT rfl (fitk (Nat.le_of_ble_eq_true rfl)) ?_ | refine x3 rfl rfl rfl ?_ | refine x2 rfl rfl ?_ | refine x2L rfl rfl ?_ | refine ⟨_, rfl, ?_⟩)
    refine fs_of (law_lines hw0 hw1 hf _) ?_
    rw [lnD_T]
    show W _ (mG n ws sts (some (.int (done.length : Nat))) (some (frD s.1)) (some (.tup (s.2.map rlD))) (some (.lst ((lnT ws s.1).map lnE))) a8 a9 a10 st1) _
    have same := kd_same (kd_lines (ws := ws) hf M.wd)
    refine w_seq (w_if (w_bor ?_))
    repeat (first | refine w_seq ?_ | refine w_set ?_ | refine w_rt ?_ | refine w_drop ?_ | refine w_frz ?_ | refine w_multi ?_ | refine w_mcons ?_ | refine w_mnil ?_ | refine w_asg ?_ | refine w_hval ?_ | refine w_var rfl ?_ | refine w_c ?_ | refine w_hslot rfl ?_ | refine w_acons ?_ | refine w_anil ?_ | refine w_op ?_ | refine w_un ?_ | refine w_fn ?_ | refine w_tup ?_ | refine w_lst ?_ | refine w_avals ?_ | refine w_alooks ?_ | refine w_callK ?_ | refine w_cut ?_ | refine w_pint ?_ | refine w_pno ?_ | refine w_bof ?_ | refine w_nx ?_ | refine w_ret ?_ | refine xT rfl (fitk (Nat.le_of_ble_eq_true rfl)) ?_ | refine x3 rfl rfl rfl ?_ | refine x2 rfl rfl ?_ | refine x2L rfl rfl ?_ | refine ⟨_, rfl, ?_⟩)
    refine fs_of (lines_of_ok hw0 hw1 hf _) ?_
    rw [lnD_T]
    repeat (first | refine w_seq ?_ | refine w_set ?_ | refine w_rt ?_ | refine w_drop ?_ | refine w_frz ?_ | refine w_multi ?_ | refine w_mcons ?_ | refine w_mnil ?_ | refine w_asg ?_ | refine w_hval ?_ | refine w_var rfl ?_ | refine w_c ?_ | refine w_hslot rfl ?_ | refine w_acons ?_ | refine w_anil ?_ | refine w_op ?_ | refine w_un ?_ | refine w_fn ?_ | refine w_tup ?_ | refine w_lst ?_ | refine w_avals ?_ | refine w_alooks ?_ | refine w_callK ?_ | refine w_cut ?_ | refine w_pint ?_ | refine w_pno ?_ | refine w_bof ?_ | refine w_nx ?_ | refine w_ret ?_ | refine xT rfl (fitk (Nat.le_of_ble_eq_true rfl)) ?_ | refine x3 rfl rfl rfl ?_ | refine x2 rfl rfl ?_ | refine x2L rfl rfl ?_ | refine ⟨_, rfl, ?_⟩)
    refine x3 rfl rfl same ?_
    refine ⟨_, rfl, (fun z => nomatch z), fun _ => ?_⟩
    repeat (first | refine w_seq ?_ | refine w_set ?_ | refine w_rt ?_ | refine w_drop ?_ | refine w_frz ?_ | refine w_multi ?_ | refine w_mcons ?_ | refine w_mnil ?_ | refine w_asg ?_ | refine w_hval ?_ | refine w_var rfl ?_ | refine w_c ?_ | refine w_hslot rfl ?_ | refine w_acons ?_ | refine w_anil ?_ | refine w_op ?_ | refine w_un ?_ | refine w_fn ?_ | refine w_tup ?_ | refine w_lst ?_ | refine w_avals ?_ | refine w_alooks ?_ | refine w_callK ?_ | refine w_cut ?_ | refine w_pint ?_ | refine w_pno ?_ | refine w_bof ?_ | refine w_nx ?_ | refine w_ret ?_ | refine xT rfl (fitk (Nat.le_of_ble_eq_true rfl)) ?_ | refine x3 rfl rfl rfl ?_ | refine x2 rfl rfl ?_ | refine x2L rfl rfl ?_ | refine ⟨_, rfl, ?_⟩)
    refine fs_of (lines_of_ok hw0 hw1 hf _) ?_
    rw [lnD_T]
    repeat (first | refine w_seq ?_ | refine w_set ?_ | refine w_rt ?_ | refine w_drop ?_ | refine w_frz ?_ | refine w_multi ?_ | refine w_mcons ?_ | refine w_mnil ?_ | refine w_asg ?_ | refine w_hval ?_ | refine w_var rfl ?_ | refine w_c ?_ | refine w_hslot rfl ?_ | refine w_acons ?_ | refine w_anil ?_ | refine w_op ?_ | refine w_un ?_ | refine w_fn ?_ | refine w_tup ?_ | refine w_lst ?_ | refine w_avals ?_ | refine w_alooks ?_ | refine w_callK ?_ | refine w_cut ?_ | refine w_pint ?_ | refine w_pno ?_ | refine w_bof ?_ | refine w_nx ?_ | refine w_ret ?_ | refine xT rfl (fitk (Nat.le_of_ble_eq_true rfl)) ?_ | refine x3 rfl rfl rfl ?_ | refine x2 rfl rfl ?_ | refine x2L rfl rfl ?_ | refine ⟨_, rfl, ?_⟩)
    refine x3 rfl rfl same ?_
    refine ⟨_, rfl, (fun z => nomatch z), fun _ => ?_⟩
    refine w_nx ?_
    refine w_for (fun _ done2 m => ∃ (b8 b9 b10 : Option D), m = mG n ws sts (some (.int (done.length : Nat))) (some (frD s.1)) (some (.tup (s.2.map rlD))) (some (.lst ((lnT ws s.1).map lnE))) b8 b9 b10 st1) ?_
    refine w_izip ?_
    repeat (first | refine w_seq ?_ | refine w_set ?_ | refine w_rt ?_ | refine w_drop ?_ | refine w_frz ?_ | refine w_multi ?_ | refine w_mcons ?_ | refine w_mnil ?_ | refine w_asg ?_ | refine w_hval ?_ | refine w_var rfl ?_ | refine w_c ?_ | refine w_hslot rfl ?_ | refine w_acons ?_ | refine w_anil ?_ | refine w_op ?_ | refine w_un ?_ | refine w_fn ?_ | refine w_tup ?_ | refine w_lst ?_ | refine w_avals ?_ | refine w_alooks ?_ | refine w_callK ?_ | refine w_cut ?_ | refine w_pint ?_ | refine w_pno ?_ | refine w_bof ?_ | refine w_nx ?_ | refine w_ret ?_ | refine xT rfl (fitk (Nat.le_of_ble_eq_true rfl)) ?_ | refine x3 rfl rfl rfl ?_ | refine x2 rfl rfl ?_ | refine x2L rfl rfl ?_ | refine ⟨_, rfl, ?_⟩)
    refine ⟨_, _, _, _, rfl, .inr rfl, .inl rfl, ⟨a8, a9, a10, rfl⟩, ?_, ?_⟩
    · rintro done2 d rest2 m3 he2 ⟨b8, b9, b10, rfl⟩
      obtain ⟨x, y, hx, hy, rfl⟩ := zip_at he2
      rw [List.getElem?_map, Option.map_eq_some_iff] at hx hy
      obtain ⟨q, hq, rfl⟩ := hx
      obtain ⟨l, hl, rfl⟩ := hy
      have hqk := M.rk s hsm q (List.mem_of_getElem? hq)
      have sameR := kd_same (kd_rl hqk (by omega))
      have ru := fun st => prule_ok M (k := done.length) (j := done2.length) (f := s.1) (rs := s.2) hs hl hq (st := st)
      refine ⟨_, rfl, ?_⟩
      show W _ (mG n ws sts (some (.int (done.length : Nat))) (some (frD s.1)) (some (.tup (s.2.map rlD))) (some (.lst ((lnT ws s.1).map lnE))) (some (rlD q)) (some (.str l.1)) (some (qD l.2)) st1) _
      refine w_seq (w_if ?_)
      repeat (first | refine w_seq ?_ | refine w_set ?_ | refine w_rt ?_ | refine w_drop ?_ | refine w_frz ?_ | refine w_multi ?_ | refine w_mcons ?_ | refine w_mnil ?_ | refine w_asg ?_ | refine w_hval ?_ | refine w_var rfl ?_ | refine w_c ?_ | refine w_hslot rfl ?_ | refine w_acons ?_ | refine w_anil ?_ | refine w_op ?_ | refine w_un ?_ | refine w_fn ?_ | refine w_tup ?_ | refine w_lst ?_ | refine w_avals ?_ | refine w_alooks ?_ | refine w_callK ?_ | refine w_cut ?_ | refine w_pint ?_ | refine w_pno ?_ | refine w_bof ?_ | refine w_nx ?_ | refine w_ret ?_ | refine xT rfl (fitk (Nat.le_of_ble_eq_true rfl)) ?_ | refine x3 rfl rfl rfl ?_ | refine x2 rfl rfl ?_ | refine x2L rfl rfl ?_ | refine ⟨_, rfl, ?_⟩)
      refine (ru st1).mono ?_
      rintro d st2 ⟨rfl, rfl⟩
      refine w_hval (w_var rfl ?_)
      refine x3 rfl rfl sameR ?_
      refine ⟨_, rfl, (fun z => nomatch z), fun _ => ?_⟩
      refine w_nx ?_
      refine w_if ?_
      repeat (first | refine w_seq ?_ | refine w_set ?_ | refine w_rt ?_ | refine w_drop ?_ | refine w_frz ?_ | refine w_multi ?_ | refine w_mcons ?_ | refine w_mnil ?_ | refine w_asg ?_ | refine w_hval ?_ | refine w_var rfl ?_ | refine w_c ?_ | refine w_hslot rfl ?_ | refine w_acons ?_ | refine w_anil ?_ | refine w_op ?_ | refine w_un ?_ | refine w_fn ?_ | refine w_tup ?_ | refine w_lst ?_ | refine w_avals ?_ | refine w_alooks ?_ | refine w_callK ?_ | refine w_cut ?_ | refine w_pint ?_ | refine w_pno ?_ | refine w_bof ?_ | refine w_nx ?_ | refine w_ret ?_ | refine xT rfl (fitk (Nat.le_of_ble_eq_true rfl)) ?_ | refine x3 rfl rfl rfl ?_ | refine x2 rfl rfl ?_ | refine x2L rfl rfl ?_ | refine ⟨_, rfl, ?_⟩)
      refine (ru _).mono ?_
      rintro d st3 ⟨rfl, rfl⟩
      refine w_hval (w_var rfl ?_)
      refine x3 rfl rfl sameR ?_
      refine ⟨_, rfl, (fun z => nomatch z), fun _ => ?_⟩
      refine w_nx ?_
      exact ⟨_, _, _, rfl⟩
    · rintro m3 ⟨b8, b9, b10, rfl⟩
      exact ⟨_, _, _, _, _, _, _, rfl⟩
  rintro m2 ⟨a4, a5, a6, a7, a8, a9, a10, rfl⟩
  refine w_seq ?_
  refine w_for (fun _ done m => ∃ (a4 a5 a6 a7 a8 a9 a10 : Option D) (st : Sto), m = mG n ws sts a4 a5 a6 a7 a8 a9 a10 st) ?_
  refine w_iseq ?_
  repeat (first | refine w_seq ?_ | refine w_set ?_ | refine w_rt ?_ | refine w_drop ?_ | refine w_frz ?_ | refine w_multi ?_ | refine w_mcons ?_ | refine w_mnil ?_ | refine w_asg ?_ | refine w_hval ?_ | refine w_var rfl ?_ | refine w_c ?_ | refine w_hslot rfl ?_ | refine w_acons ?_ | refine w_anil ?_ | refine w_op ?_ | refine w_un ?_ | refine w_fn ?_ | refine w_tup ?_ | refine w_lst ?_ | refine w_avals ?_ | refine w_alooks ?_ | refine w_callK ?_ | refine w_cut ?_ | refine w_pint ?_ | refine w_pno ?_ | refine w_bof ?_ | refine w_nx ?_ | refine w_ret ?_ | refine xT rfl (fitk (Nat.le_of_ble_eq_true rfl)) ?_ | refine x3 rfl rfl rfl ?_ | refine x2 rfl rfl ?_ | refine x2L rfl rfl ?_ | refine ⟨_, rfl, ?_⟩)
  refine cut_ok M h1 (by omega) fun sts2 st2 M2 h2 => ?_
  repeat (first | refine w_seq ?_ | refine w_set ?_ | refine w_rt ?_ | refine w_drop ?_ | refine w_frz ?_ | refine w_multi ?_ | refine w_mcons ?_ | refine w_mnil ?_ | refine w_asg ?_ | refine w_hval ?_ | refine w_var rfl ?_ | refine w_c ?_ | refine w_hslot rfl ?_ | refine w_acons ?_ | refine w_anil ?_ | refine w_op ?_ | refine w_un ?_ | refine w_fn ?_ | refine w_tup ?_ | refine w_lst ?_ | refine w_avals ?_ | refine w_alooks ?_ | refine w_callK ?_ | refine w_cut ?_ | refine w_pint ?_ | refine w_pno ?_ | refine w_bof ?_ | refine w_nx ?_ | refine w_ret ?_ | refine xT rfl (fitk (Nat.le_of_ble_eq_true rfl)) ?_ | refine x3 rfl rfl rfl ?_ | refine x2 rfl rfl ?_ | refine x2L rfl rfl ?_ | refine ⟨_, rfl, ?_⟩)
  refine cut_ok M h2 (by omega) fun sts3 st3 M3 h3 => ?_
  repeat (first | refine w_seq ?_ | refine w_set ?_ | refine w_rt ?_ | refine w_drop ?_ | refine w_frz ?_ | refine w_multi ?_ | refine w_mcons ?_ | refine w_mnil ?_ | refine w_asg ?_ | refine w_hval ?_ | refine w_var rfl ?_ | refine w_c ?_ | refine w_hslot rfl ?_ | refine w_acons ?_ | refine w_anil ?_ | refine w_op ?_ | refine w_un ?_ | refine w_fn ?_ | refine w_tup ?_ | refine w_lst ?_ | refine w_avals ?_ | refine w_alooks ?_ | refine w_callK ?_ | refine w_cut ?_ | refine w_pint ?_ | refine w_pno ?_ | refine w_bof ?_ | refine w_nx ?_ | refine w_ret ?_ | refine xT rfl (fitk (Nat.le_of_ble_eq_true rfl)) ?_ | refine x3 rfl rfl rfl ?_ | refine x2 rfl rfl ?_ | refine x2L rfl rfl ?_ | refine ⟨_, rfl, ?_⟩)
  refine cut_ok M3 h3 (by omega) fun sts4 st4 M4 h4 => ?_
  repeat (first | refine w_seq ?_ | refine w_set ?_ | refine w_rt ?_ | refine w_drop ?_ | refine w_frz ?_ | refine w_multi ?_ | refine w_mcons ?_ | refine w_mnil ?_ | refine w_asg ?_ | refine w_hval ?_ | refine w_var rfl ?_ | refine w_c ?_ | refine w_hslot rfl ?_ | refine w_acons ?_ | refine w_anil ?_ | refine w_op ?_ | refine w_un ?_ | refine w_fn ?_ | refine w_tup ?_ | refine w_lst ?_ | refine w_avals ?_ | refine w_alooks ?_ | refine w_callK ?_ | refine w_cut ?_ | refine w_pint ?_ | refine w_pno ?_ | refine w_bof ?_ | refine w_nx ?_ | refine w_ret ?_ | refine xT rfl (fitk (Nat.le_of_ble_eq_true rfl)) ?_ | refine x3 rfl rfl rfl ?_ | refine x2 rfl rfl ?_ | refine x2L rfl rfl ?_ | refine ⟨_, rfl, ?_⟩)
  refine ⟨[mcD ws sts, mcD ws sts2, mcD ws sts4], .inl rfl, ⟨a4, a5, a6, a7, a8, a9, a10, st4, rfl⟩, ?_, ?_⟩
  · rintro done d rest m2 he ⟨b4, b5, b6, b7, b8, b9, b10, st5, rfl⟩
    obtain ⟨sx, Mx, rfl⟩ : ∃ sx, MOk ws sx ∧ d = mcD ws sx := by
      have : d ∈ [mcD ws sts, mcD ws sts2, mcD ws sts4] := by rw [← he]; simp
      simp only [List.mem_cons, List.not_mem_nil, or_false] at this
      rcases this with rfl | rfl | rfl
      · exact ⟨_, M, rfl⟩
      · exact ⟨_, M2, rfl⟩
      · exact ⟨_, M4, rfl⟩
    refine ⟨_, rfl, ?_⟩
    refine w_if (w_bor ?_)
    repeat (first | refine w_seq ?_ | refine w_set ?_ | refine w_rt ?_ | refine w_drop ?_ | refine w_frz ?_ | refine w_multi ?_ | refine w_mcons ?_ | refine w_mnil ?_ | refine w_asg ?_ | refine w_hval ?_ | refine w_var rfl ?_ | refine w_c ?_ | refine w_hslot rfl ?_ | refine w_acons ?_ | refine w_anil ?_ | refine w_op ?_ | refine w_un ?_ | refine w_fn ?_ | refine w_tup ?_ | refine w_lst ?_ | refine w_avals ?_ | refine w_alooks ?_ | refine w_callK ?_ | refine w_cut ?_ | refine w_pint ?_ | refine w_pno ?_ | refine w_bof ?_ | refine w_nx ?_ | refine w_ret ?_ | refine xT rfl (fitk (Nat.le_of_ble_eq_true rfl)) ?_ | refine x3 rfl rfl rfl ?_ | refine x2 rfl rfl ?_ | refine x2L rfl rfl ?_ | refine ⟨_, rfl, ?_⟩)
    refine (reached_ok Mx).mono ?_
    rintro d1 st6 ⟨t1, rfl⟩
    repeat (first | refine w_seq ?_ | refine w_set ?_ | refine w_rt ?_ | refine w_drop ?_ | refine w_frz ?_ | refine w_multi ?_ | refine w_mcons ?_ | refine w_mnil ?_ | refine w_asg ?_ | refine w_hval ?_ | refine w_var rfl ?_ | refine w_c ?_ | refine w_hslot rfl ?_ | refine w_acons ?_ | refine w_anil ?_ | refine w_op ?_ | refine w_un ?_ | refine w_fn ?_ | refine w_tup ?_ | refine w_lst ?_ | refine w_avals ?_ | refine w_alooks ?_ | refine w_callK ?_ | refine w_cut ?_ | refine w_pint ?_ | refine w_pno ?_ | refine w_bof ?_ | refine w_nx ?_ | refine w_ret ?_ | refine xT rfl (fitk (Nat.le_of_ble_eq_true rfl)) ?_ | refine x3 rfl rfl rfl ?_ | refine x2 rfl rfl ?_ | refine x2L rfl rfl ?_ | refine ⟨_, rfl, ?_⟩)
    refine (law_reached_ok Mx).mono ?_
    rintro d2 st7 ⟨t2, rfl⟩
    have e := t1.same t2
    subst e
    have same := kd_same (t1.kd Mx)
    have lk : ∀ m, look (Hd.val d1) m = some d1 := fun m => by obtain ⟨ns, rfl, _⟩ := t1; rfl
    refine x3 (lk _) (lk _) same ?_
    refine ⟨_, rfl, (fun z => nomatch z), fun _ => ?_⟩
    repeat (first | refine w_seq ?_ | refine w_set ?_ | refine w_rt ?_ | refine w_drop ?_ | refine w_frz ?_ | refine w_multi ?_ | refine w_mcons ?_ | refine w_mnil ?_ | refine w_asg ?_ | refine w_hval ?_ | refine w_var rfl ?_ | refine w_c ?_ | refine w_hslot rfl ?_ | refine w_acons ?_ | refine w_anil ?_ | refine w_op ?_ | refine w_un ?_ | refine w_fn ?_ | refine w_tup ?_ | refine w_lst ?_ | refine w_avals ?_ | refine w_alooks ?_ | refine w_callK ?_ | refine w_cut ?_ | refine w_pint ?_ | refine w_pno ?_ | refine w_bof ?_ | refine w_nx ?_ | refine w_ret ?_ | refine xT rfl (fitk (Nat.le_of_ble_eq_true rfl)) ?_ | refine x3 rfl rfl rfl ?_ | refine x2 rfl rfl ?_ | refine x2L rfl rfl ?_ | refine ⟨_, rfl, ?_⟩)
    refine (reached_ok Mx).mono ?_
    rintro d3 st8 ⟨t3, rfl⟩
    repeat (first | refine w_seq ?_ | refine w_set ?_ | refine w_rt ?_ | refine w_drop ?_ | refine w_frz ?_ | refine w_multi ?_ | refine w_mcons ?_ | refine w_mnil ?_ | refine w_asg ?_ | refine w_hval ?_ | refine w_var rfl ?_ | refine w_c ?_ | refine w_hslot rfl ?_ | refine w_acons ?_ | refine w_anil ?_ | refine w_op ?_ | refine w_un ?_ | refine w_fn ?_ | refine w_tup ?_ | refine w_lst ?_ | refine w_avals ?_ | refine w_alooks ?_ | refine w_callK ?_ | refine w_cut ?_ | refine w_pint ?_ | refine w_pno ?_ | refine w_bof ?_ | refine w_nx ?_ | refine w_ret ?_ | refine xT rfl (fitk (Nat.le_of_ble_eq_true rfl)) ?_ | refine x3 rfl rfl rfl ?_ | refine x2 rfl rfl ?_ | refine x2L rfl rfl ?_ | refine ⟨_, rfl, ?_⟩)
    refine (law_reached_ok Mx).mono ?_
    rintro d4 st9 ⟨t4, rfl⟩
    have e3 := t1.same t3
    subst e3
    have e4 := t1.same t4
    subst e4
    refine x3 (lk _) (lk _) same ?_
    refine ⟨_, rfl, (fun z => nomatch z), fun _ => ?_⟩
    refine w_nx ?_
    exact ⟨_, _, _, _, _, _, _, _, rfl⟩
  rintro m2 ⟨b4, b5, b6, b7, b8, b9, b10, st5, rfl⟩
  repeat (first | refine w_seq ?_ | refine w_set ?_ | refine w_rt ?_ | refine w_drop ?_ | refine w_frz ?_ | refine w_multi ?_ | refine w_mcons ?_ | refine w_mnil ?_ | refine w_asg ?_ | refine w_hval ?_ | refine w_var rfl ?_ | refine w_c ?_ | refine w_hslot rfl ?_ | refine w_acons ?_ | refine w_anil ?_ | refine w_op ?_ | refine w_un ?_ | refine w_fn ?_ | refine w_tup ?_ | refine w_lst ?_ | refine w_avals ?_ | refine w_alooks ?_ | refine w_callK ?_ | refine w_cut ?_ | refine w_pint ?_ | refine w_pno ?_ | refine w_bof ?_ | refine w_nx ?_ | refine w_ret ?_ | refine xT rfl (fitk (Nat.le_of_ble_eq_true rfl)) ?_ | refine x3 rfl rfl rfl ?_ | refine x2 rfl rfl ?_ | refine x2L rfl rfl ?_ | refine ⟨_, rfl, ?_⟩)
  exact rfl
/-! ### the law -/
theorem hand_fs {st : Sto} {ns : List Int} {k : Int} {P : D → Sto → Prop} (h0 : 0 ≤ k) (h1 : k < 100) (q : ∀ n st', HB st' n 0 → P (.obj n) st') : FS fn__law_hand [.scr ns, .int k] st P := by
  obtain ⟨g, c, e, H⟩ := hand_ok (st := st) (ns := ns) h0 h1
  exact fs_of e (q _ _ ⟨g, c, 0, H, by simp⟩)
theorem bls_true : ∀ {ys : List D}, (∀ y ∈ ys, y = .bl true) → ∃ bs : List Bool, bls? ys = some bs ∧ bs.all id = true
  | [], _ => ⟨[], rfl, rfl⟩
  | y :: ys, h => by
    obtain ⟨bs, e, hb⟩ := bls_true (ys := ys) fun z hz => h z (List.mem_cons_of_mem _ hz)
    rw [h y (List.mem_cons_self ..)]
    exact ⟨true :: bs, by rw [bls?, e]; rfl, by simpa using hb⟩
theorem law_fs (ns : List Int) : FS fn_law [.scr ns] [] fun d _ => d = .bl true := by
  refine fs_run ?_
  unfold d_law
  repeat (first | refine w_seq ?_ | refine w_set ?_ | refine w_rt ?_ | refine w_drop ?_ | refine w_frz ?_ | refine w_multi ?_ | refine w_mcons ?_ | refine w_mnil ?_ | refine w_asg ?_ | refine w_hval ?_ | refine w_var rfl ?_ | refine w_c ?_ | refine w_hslot rfl ?_ | refine w_acons ?_ | refine w_anil ?_ | refine w_op ?_ | refine w_un ?_ | refine w_fn ?_ | refine w_tup ?_ | refine w_lst ?_ | refine w_avals ?_ | refine w_alooks ?_ | refine w_callK ?_ | refine w_cut ?_ | refine w_pint ?_ | refine w_pno ?_ | refine w_bof ?_ | refine w_nx ?_ | refine w_ret ?_ | refine xT rfl (fitk (Nat.le_of_ble_eq_true rfl)) ?_ | refine x3 rfl rfl rfl ?_ | refine x2 rfl rfl ?_ | refine x2L rfl rfl ?_ | refine ⟨_, rfl, ?_⟩)
  refine w_lc (fun _ done ys m => ∃ (a1 : Option D) (st : Sto), m = ⟨[some (.scr ns), a1], st⟩ ∧ (∀ y ∈ ys, y = .bl true) ∧ ys.length = done.length) ?_
  refine w_irange1 ?_
  repeat (first | refine w_seq ?_ | refine w_set ?_ | refine w_rt ?_ | refine w_drop ?_ | refine w_frz ?_ | refine w_multi ?_ | refine w_mcons ?_ | refine w_mnil ?_ | refine w_asg ?_ | refine w_hval ?_ | refine w_var rfl ?_ | refine w_c ?_ | refine w_hslot rfl ?_ | refine w_acons ?_ | refine w_anil ?_ | refine w_op ?_ | refine w_un ?_ | refine w_fn ?_ | refine w_tup ?_ | refine w_lst ?_ | refine w_avals ?_ | refine w_alooks ?_ | refine w_callK ?_ | refine w_cut ?_ | refine w_pint ?_ | refine w_pno ?_ | refine w_bof ?_ | refine w_nx ?_ | refine w_ret ?_ | refine xT rfl (fitk (Nat.le_of_ble_eq_true rfl)) ?_ | refine x3 rfl rfl rfl ?_ | refine x2 rfl rfl ?_ | refine x2L rfl rfl ?_ | refine ⟨_, rfl, ?_⟩)
  have hk : (0 : Int) ≤ (if (if (3 : Int) < ns.length then 3 else (ns.length : Int)) > 1 then (if (3 : Int) < ns.length then 3 else (ns.length : Int)) else 1) ∧ (if (if (3 : Int) < ns.length then 3 else (ns.length : Int)) > 1 then (if (3 : Int) < ns.length then 3 else (ns.length : Int)) else 1) ≤ 3 := by
    split <;> split <;> omega
  refine ⟨small_ok (by omega) (by omega), ⟨none, [], rfl, by simp, rfl⟩, ?_, ?_⟩
  · rintro done d rest ys m2 he ⟨a1, st, rfl, hy, hl⟩
    obtain ⟨hlt, rfl⟩ := range_at he
    refine ⟨_, rfl, w_ret ⟨(fun z => nomatch z), fun _ => ?_⟩⟩
    repeat (first | refine w_seq ?_ | refine w_set ?_ | refine w_rt ?_ | refine w_drop ?_ | refine w_frz ?_ | refine w_multi ?_ | refine w_mcons ?_ | refine w_mnil ?_ | refine w_asg ?_ | refine w_hval ?_ | refine w_var rfl ?_ | refine w_c ?_ | refine w_hslot rfl ?_ | refine w_acons ?_ | refine w_anil ?_ | refine w_op ?_ | refine w_un ?_ | refine w_fn ?_ | refine w_tup ?_ | refine w_lst ?_ | refine w_avals ?_ | refine w_alooks ?_ | refine w_callK ?_ | refine w_cut ?_ | refine w_pint ?_ | refine w_pno ?_ | refine w_bof ?_ | refine w_nx ?_ | refine w_ret ?_ | refine xT rfl (fitk (Nat.le_of_ble_eq_true rfl)) ?_ | refine x3 rfl rfl rfl ?_ | refine x2 rfl rfl ?_ | refine x2L rfl rfl ?_ | refine ⟨_, rfl, ?_⟩)
    refine hand_fs (by omega) (by omega) fun n st1 h1 => ?_
    repeat (first | refine w_seq ?_ | refine w_set ?_ | refine w_rt ?_ | refine w_drop ?_ | refine w_frz ?_ | refine w_multi ?_ | refine w_mcons ?_ | refine w_mnil ?_ | refine w_asg ?_ | refine w_hval ?_ | refine w_var rfl ?_ | refine w_c ?_ | refine w_hslot rfl ?_ | refine w_acons ?_ | refine w_anil ?_ | refine w_op ?_ | refine w_un ?_ | refine w_fn ?_ | refine w_tup ?_ | refine w_lst ?_ | refine w_avals ?_ | refine w_alooks ?_ | refine w_callK ?_ | refine w_cut ?_ | refine w_pint ?_ | refine w_pno ?_ | refine w_bof ?_ | refine w_nx ?_ | refine w_ret ?_ | refine xT rfl (fitk (Nat.le_of_ble_eq_true rfl)) ?_ | refine x3 rfl rfl rfl ?_ | refine x2 rfl rfl ?_ | refine x2L rfl rfl ?_ | refine ⟨_, rfl, ?_⟩)
    refine (right_ok h1).mono ?_
    rintro d st2 rfl
    refine ⟨_, _, rfl, fun y hy2 => ?_, by simp [hl]⟩
    rcases List.mem_append.mp hy2 with z | z
    · exact hy y z
    · exact List.mem_singleton.mp z
  rintro ys m2 ⟨a1, st, rfl, hy, hl⟩
  rw [rangeD_len] at hl
  refine ⟨fitk (by omega), ?_⟩
  obtain ⟨bs, e, hb⟩ := bls_true hy
  repeat (first | refine w_seq ?_ | refine w_set ?_ | refine w_rt ?_ | refine w_drop ?_ | refine w_frz ?_ | refine w_multi ?_ | refine w_mcons ?_ | refine w_mnil ?_ | refine w_asg ?_ | refine w_hval ?_ | refine w_var rfl ?_ | refine w_c ?_ | refine w_hslot rfl ?_ | refine w_acons ?_ | refine w_anil ?_ | refine w_op ?_ | refine w_un ?_ | refine w_fn ?_ | refine w_tup ?_ | refine w_lst ?_ | refine w_avals ?_ | refine w_alooks ?_ | refine w_callK ?_ | refine w_cut ?_ | refine w_pint ?_ | refine w_pno ?_ | refine w_bof ?_ | refine w_nx ?_ | refine w_ret ?_ | refine xT rfl (fitk (Nat.le_of_ble_eq_true rfl)) ?_ | refine x3 rfl rfl rfl ?_ | refine x2 rfl rfl ?_ | refine x2L rfl rfl ?_ | refine ⟨_, rfl, ?_⟩)
  refine x2L rfl (d := .bl true) ?_ rfl
  show (bls? ys).map _ = _
  rw [e]
  show some (D.bl (bs.all id)) = _
  rw [hb]
theorem law_run (ns : List Int) (h : ns.length ≤ 63) : ∃ st, fn_law [.scr ns] [] = some (.bl true, st) := by
  obtain ⟨d, st, e, rfl⟩ := (law_fs ns).ex
  exact ⟨st, e⟩
end Lk10

namespace Lk10
open PySem PySem.Spec L2 MI
def dd_cases : He.DefD := ⟨("cases", none), "cases", "cases", defArgs st_cases, defBody st_cases, defScope st_cases, [], []⟩
def dd_join_cases : He.DefD := ⟨("join_cases", none), "join_cases", "join_cases", defArgs st_join_cases, defBody st_join_cases, defScope st_join_cases, [], []⟩
def dd_reached : He.DefD := ⟨("reached", none), "reached", "reached", defArgs st_reached, defBody st_reached, defScope st_reached, [], []⟩
def dd__law_hand : He.DefD := ⟨("_law_hand", none), "_law_hand", "_law_hand", defArgs st__law_hand, defBody st__law_hand, defScope st__law_hand, [], []⟩
def dd__law_take : He.DefD := ⟨("_law_take", none), "_law_take", "_law_take", defArgs st__law_take, defBody st__law_take, defScope st__law_take, [], []⟩
def dd__law_lines : He.DefD := ⟨("_law_lines", none), "_law_lines", "_law_lines", defArgs st__law_lines, defBody st__law_lines, defScope st__law_lines, [], []⟩
def dd__law_there : He.DefD := ⟨("_law_there", none), "_law_there", "_law_there", defArgs st__law_there, defBody st__law_there, defScope st__law_there, [], []⟩
def dd__law_fills : He.DefD := ⟨("_law_fills", none), "_law_fills", "_law_fills", defArgs st__law_fills, defBody st__law_fills, defScope st__law_fills, [], []⟩
def dd__law_reached : He.DefD := ⟨("_law_reached", none), "_law_reached", "_law_reached", defArgs st__law_reached, defBody st__law_reached, defScope st__law_reached, [], []⟩
def dd_lines_of : He.DefD := ⟨("lines_of", none), "lines_of", "lines_of", defArgs st_lines_of, defBody st_lines_of, defScope st_lines_of, [], []⟩
def dd__law_pick : He.DefD := ⟨("_law_pick", none), "_law_pick", "_law_pick", defArgs st__law_pick, defBody st__law_pick, defScope st__law_pick, [], []⟩
def dd__law_some : He.DefD := ⟨("_law_some", none), "_law_some", "_law_some", defArgs st__law_some, defBody st__law_some, defScope st__law_some, [], []⟩
def dd__law_cut : He.DefD := ⟨("_law_cut", none), "_law_cut", "_law_cut", defArgs st__law_cut, defBody st__law_cut, defScope st__law_cut, [], []⟩
def dd_rule : He.DefD := ⟨("rule", none), "rule", "rule", defArgs st_rule, defBody st_rule, defScope st_rule, [], []⟩
def dd__law_rule : He.DefD := ⟨("_law_rule", none), "_law_rule", "_law_rule", defArgs st__law_rule, defBody st__law_rule, defScope st__law_rule, [], []⟩
def dd__law_words : He.DefD := ⟨("_law_words", none), "_law_words", "_law_words", defArgs st__law_words, defBody st__law_words, defScope st__law_words, [], []⟩
def dd__law_frame : He.DefD := ⟨("_law_frame", none), "_law_frame", "_law_frame", defArgs st__law_frame, defBody st__law_frame, defScope st__law_frame, [], []⟩
def dd__law_machine : He.DefD := ⟨("_law_machine", none), "_law_machine", "_law_machine", defArgs st__law_machine, defBody st__law_machine, defScope st__law_machine, [], []⟩
def dd__law_right : He.DefD := ⟨("_law_right", none), "_law_right", "_law_right", defArgs st__law_right, defBody st__law_right, defScope st__law_right, [], []⟩
def dd_law : He.DefD := ⟨("law", none), "law", "law", defArgs st_law, defBody st_law, defScope st_law, [], []⟩
def fns : List He.DefD := [dd_cases, dd_join_cases, dd_reached, dd__law_hand, dd__law_take, dd__law_lines, dd__law_there, dd__law_fills, dd__law_reached, dd_lines_of, dd__law_pick, dd__law_some, dd__law_cut, dd_rule, dd__law_rule, dd__law_words, dd__law_frame, dd__law_machine, dd__law_right, dd_law]
def fas : List He.Fa := [.glo "cases", .glo "join_cases", .glo "reached", .glo "_law_hand", .glo "_law_take", .glo "_law_lines", .glo "_law_there", .glo "_law_fills", .glo "_law_reached", .glo "lines_of", .glo "_law_pick", .glo "_law_some", .glo "_law_cut", .glo "rule", .glo "_law_rule", .glo "_law_words", .glo "_law_frame", .glo "_law_machine", .glo "_law_right", .glo "law", .free "abs", .free "all", .free "enumerate", .free "int", .free "len", .free "list", .free "max", .free "min", .free "range", .free "set", .free "sorted", .free "tuple", .free "zip"]
def gcs : List (Str × D) := [("JOIN", (.str "join")), ("READ_NAME", (.tup [(.int (-1)), (.int (-1))])), ("STRANGE", (.int (-1)))]
abbrev R : PySem.W.OpenRow := PySem.W.OpenLaw.row PySem.Challenge.rw_strangeseats_k10_rules_and_stands_reache
abbrev hk : PySem.W.Hook := hookM 4 fas fns (gcB gcs)
def ob (s : PySem.W.SharedT) : AlM := obsM 4 fas fns (gcB gcs) (HandSHeadRun.getT s)
theorem ob_eq (s : PySem.W.SharedT) : ob s = hk.obs s.abs := obsM_eq (HandSHeadRun.getT_eq s)
def loose : List Str := ["JOIN", "STRANGE", "READ_NAME", "cases", "join_cases", "lines_of", "rule", "reached", "_law_hand", "_law_take", "_law_pick", "_law_lines", "_law_there", "_law_fills", "_law_some", "_law_rule", "_law_words", "_law_frame", "_law_machine", "_law_reached", "_law_cut", "_law_right"]
theorem run (w : World) : HandSHeadRun.RunEq R (PySem.W.view R.prog [25]) hk ob 4000 loose w := by
  intro os
  kernel_rfl
theorem facts {P : Program} {w : World} {K : PySem.W.Frag} {h : Heap} {mg : Str → Option Value} {f : Addr} (X : K.In h) (G : h.Ns mainGlobals mg) (hfa : mg ("law" : Str) = some (.ref f)) (c : He.SaysD fas fns K) (cg : gcB gcs K = true) :
    ∃ fd : FuncData, (∀ (s : Shared) (v : Value), BindsTo s fd ⟨[v], []⟩ [("_law_script", v)]) ∧ ∀ base : Heap, K.In base → base.Ns mainGlobals mg → FnG P w K mg base 6 f fd ["_law_script"] (SpD ⟨K, P, w⟩ (fun _ => 0) 1 fn_law) := by
  have C : Mod ⟨K, P, w⟩ mg := ⟨He.free_ok X G (c.fact 20 (f := .free "abs") rfl), He.free_ok X G (c.fact 21 (f := .free "all") rfl), He.free_ok X G (c.fact 22 (f := .free "enumerate") rfl), He.free_ok X G (c.fact 23 (f := .free "int") rfl), He.free_ok X G (c.fact 24 (f := .free "len") rfl), He.free_ok X G (c.fact 25 (f := .free "list") rfl), He.free_ok X G (c.fact 26 (f := .free "max") rfl), He.free_ok X G (c.fact 27 (f := .free "min") rfl), He.free_ok X G (c.fact 28 (f := .free "range") rfl), He.free_ok X G (c.fact 29 (f := .free "set") rfl), He.free_ok X G (c.fact 30 (f := .free "sorted") rfl), He.free_ok X G (c.fact 31 (f := .free "tuple") rfl), He.free_ok X G (c.fact 32 (f := .free "zip") rfl), gc_ok X G cg 0, gc_ok X G cg 1, gc_ok X G cg 2⟩
  obtain ⟨fd_cases, F_cases⟩ := c.def_ 0 (d := dd_cases) rfl
  obtain ⟨fd_join_cases, F_join_cases⟩ := c.def_ 1 (d := dd_join_cases) rfl
  obtain ⟨fd_reached, F_reached⟩ := c.def_ 2 (d := dd_reached) rfl
  obtain ⟨fd__law_hand, F__law_hand⟩ := c.def_ 3 (d := dd__law_hand) rfl
  obtain ⟨fd__law_take, F__law_take⟩ := c.def_ 4 (d := dd__law_take) rfl
  obtain ⟨fd__law_lines, F__law_lines⟩ := c.def_ 5 (d := dd__law_lines) rfl
  obtain ⟨fd__law_there, F__law_there⟩ := c.def_ 6 (d := dd__law_there) rfl
  obtain ⟨fd__law_fills, F__law_fills⟩ := c.def_ 7 (d := dd__law_fills) rfl
  obtain ⟨fd__law_reached, F__law_reached⟩ := c.def_ 8 (d := dd__law_reached) rfl
  obtain ⟨fd_lines_of, F_lines_of⟩ := c.def_ 9 (d := dd_lines_of) rfl
  obtain ⟨fd__law_pick, F__law_pick⟩ := c.def_ 10 (d := dd__law_pick) rfl
  obtain ⟨fd__law_some, F__law_some⟩ := c.def_ 11 (d := dd__law_some) rfl
  obtain ⟨fd__law_cut, F__law_cut⟩ := c.def_ 12 (d := dd__law_cut) rfl
  obtain ⟨fd_rule, F_rule⟩ := c.def_ 13 (d := dd_rule) rfl
  obtain ⟨fd__law_rule, F__law_rule⟩ := c.def_ 14 (d := dd__law_rule) rfl
  obtain ⟨fd__law_words, F__law_words⟩ := c.def_ 15 (d := dd__law_words) rfl
  obtain ⟨fd__law_frame, F__law_frame⟩ := c.def_ 16 (d := dd__law_frame) rfl
  obtain ⟨fd__law_machine, F__law_machine⟩ := c.def_ 17 (d := dd__law_machine) rfl
  obtain ⟨fd__law_right, F__law_right⟩ := c.def_ 18 (d := dd__law_right) rfl
  obtain ⟨fd_law, F_law⟩ := c.def_ 19 (d := dd_law) rfl
  have b0 := kb_plain (ps := ["frame"]) F_cases 1 [] [.p 0] (fun _ _ _ _ _ _ us ws l1 l2 => match us, ws, l1, l2 with | [_], [], _, _ => rfl)
  have b1 := kb_plain (ps := ["frame"]) F_join_cases 1 [] [.p 0] (fun _ _ _ _ _ _ us ws l1 l2 => match us, ws, l1, l2 with | [_], [], _, _ => rfl)
  have b2 := kb_plain (ps := ["words", "frame"]) F_lines_of 2 [] [.p 0, .p 1] (fun _ _ _ _ _ _ us ws l1 l2 => match us, ws, l1, l2 with | [_, _], [], _, _ => rfl)
  have b3 := kb_plain (ps := ["_law_hand_here", "_law_many"]) F__law_take 2 [] [.p 0, .p 1] (fun _ _ _ _ _ _ us ws l1 l2 => match us, ws, l1, l2 with | [_, _], [], _, _ => rfl)
  have b4 := kb_plain (ps := ["_law_shape", "_law_term", "_law_spot"]) F__law_there 3 [] [.p 0, .p 1, .p 2] (fun _ _ _ _ _ _ us ws l1 l2 => match us, ws, l1, l2 with | [_, _, _], [], _, _ => rfl)
  have b5 := kb_plain (ps := ["_law_shape", "_law_there_here"]) F__law_fills 2 [] [.p 0, .p 1] (fun _ _ _ _ _ _ us ws l1 l2 => match us, ws, l1, l2 with | [_, _], [], _, _ => rfl)
  have b6 := kb_plain (ps := ["_law_hand_here", "_law_some_here"]) F__law_pick 2 [] [.p 0, .p 1] (fun _ _ _ _ _ _ us ws l1 l2 => match us, ws, l1, l2 with | [_, _], [], _, _ => rfl)
  have b7 := kb_plain (ps := ["_law_hand_here", "_law_some_here", "_law_many"]) F__law_some 3 [] [.p 0, .p 1, .p 2] (fun _ _ _ _ _ _ us ws l1 l2 => match us, ws, l1, l2 with | [_, _, _], [], _, _ => rfl)
  have b8 := kb_plain (ps := ["_law_hand_here", "_law_many"]) F__law_words 2 [] [.p 0, .p 1] (fun _ _ _ _ _ _ us ws l1 l2 => match us, ws, l1, l2 with | [_, _], [], _, _ => rfl)
  have b9 := kb_plain (ps := ["_law_hand_here"]) F__law_frame 1 [] [.p 0] (fun _ _ _ _ _ _ us ws l1 l2 => match us, ws, l1, l2 with | [_], [], _, _ => rfl)
  have b10 := kb_plain (ps := ["_law_terms", "_law_shape"]) F__law_lines 2 [] [.p 0, .p 1] (fun _ _ _ _ _ _ us ws l1 l2 => match us, ws, l1, l2 with | [_, _], [], _, _ => rfl)
  have b11 := kb_plain (ps := ["_law_hand_here", "_law_frames", "_law_shape", "_law_line", "_law_marks"]) F__law_rule 5 [] [.p 0, .p 1, .p 2, .p 3, .p 4] (fun _ _ _ _ _ _ us ws l1 l2 => match us, ws, l1, l2 with | [_, _, _, _, _], [], _, _ => rfl)
  have b12 := kb_plain (ps := ["_law_hand_here", "_law_most_words", "_law_most_stands"]) F__law_machine 3 [] [.p 0, .p 1, .p 2] (fun _ _ _ _ _ _ us ws l1 l2 => match us, ws, l1, l2 with | [_, _, _], [], _, _ => rfl)
  have b13 := kb_plain (ps := ["words", "frame"]) F_lines_of 0 ["frame", "words"] [.k 1, .k 0] (fun _ _ _ _ _ _ us ws l1 l2 => match us, ws, l1, l2 with | [], [_, _], _, _ => rfl)
  have b14 := kb_plain (ps := ["machine", "stand", "word", "case"]) F_rule 4 [] [.p 0, .p 1, .p 2, .p 3] (fun _ _ _ _ _ _ us ws l1 l2 => match us, ws, l1, l2 with | [_, _, _, _], [], _, _ => rfl)
  have b15 := kb_plain (ps := ["machine", "stand", "word", "case"]) F_rule 0 ["case", "word", "stand", "machine"] [.k 3, .k 2, .k 1, .k 0] (fun _ _ _ _ _ _ us ws l1 l2 => match us, ws, l1, l2 with | [], [_, _, _, _], _, _ => rfl)
  have b16 := kb_plain (ps := ["_law_hand_here", "_law_made"]) F__law_cut 2 [] [.p 0, .p 1] (fun _ _ _ _ _ _ us ws l1 l2 => match us, ws, l1, l2 with | [_, _], [], _, _ => rfl)
  have b17 := kb_plain (ps := ["machine"]) F_reached 1 [] [.p 0] (fun _ _ _ _ _ _ us ws l1 l2 => match us, ws, l1, l2 with | [_], [], _, _ => rfl)
  have b18 := kb_plain (ps := ["_law_made"]) F__law_reached 1 [] [.p 0] (fun _ _ _ _ _ _ us ws l1 l2 => match us, ws, l1, l2 with | [_], [], _, _ => rfl)
  have b19 := kb_plain (ps := ["machine"]) F_reached 0 ["machine"] [.k 0] (fun _ _ _ _ _ _ us ws l1 l2 => match us, ws, l1, l2 with | [], [_], _, _ => rfl)
  have b20 := kb_plain (ps := ["_law_hand_here"]) F__law_right 1 [] [.p 0] (fun _ _ _ _ _ _ us ws l1 l2 => match us, ws, l1, l2 with | [_], [], _, _ => rfl)
  have b21 := kb_plain (ps := ["_law_script", "_law_k"]) F__law_hand 2 [] [.p 0, .p 1] (fun _ _ _ _ _ _ us ws l1 l2 => match us, ws, l1, l2 with | [_, _], [], _, _ => rfl)
  have e := hfa.symm.trans (He.glo_ok X G (c.fact 19 (f := .glo "law") rfl))
  cases e
  have b := FunD.bindsA (ps := ["_law_script"]) F_law fun _ _ _ _ _ _ us hl => match us, hl with | [_], _ => rfl
  refine ⟨fd_law, fun s v => b s [v] rfl, fun base _ _ => ?_⟩
  have D_cases : DefG P w K mg base (fun _ => 0) 1 "cases" _ fd_cases _ fn_cases := ⟨ok_cases (cls := fun _ => 0) (base := base) C F_cases , He.glo_ok X G (c.fact 0 (f := .glo "cases") rfl), F_cases.kp⟩
  have D_join_cases : DefG P w K mg base (fun _ => 0) 1 "join_cases" _ fd_join_cases _ fn_join_cases := ⟨ok_join_cases (cls := fun _ => 0) (base := base) C F_join_cases , He.glo_ok X G (c.fact 1 (f := .glo "join_cases") rfl), F_join_cases.kp⟩
  have D_reached : DefG P w K mg base (fun _ => 0) 1 "reached" _ fd_reached _ fn_reached := ⟨ok_reached (cls := fun _ => 0) (base := base) C F_reached , He.glo_ok X G (c.fact 2 (f := .glo "reached") rfl), F_reached.kp⟩
  have D__law_hand : DefG P w K mg base (fun _ => 0) 1 "_law_hand" _ fd__law_hand _ fn__law_hand := ⟨ok__law_hand (cls := fun _ => 0) (base := base) C F__law_hand , He.glo_ok X G (c.fact 3 (f := .glo "_law_hand") rfl), F__law_hand.kp⟩
  have D__law_take : DefG P w K mg base (fun _ => 0) 1 "_law_take" _ fd__law_take _ fn__law_take := ⟨ok__law_take (cls := fun _ => 0) (base := base) C F__law_take , He.glo_ok X G (c.fact 4 (f := .glo "_law_take") rfl), F__law_take.kp⟩
  have D__law_lines : DefG P w K mg base (fun _ => 0) 1 "_law_lines" _ fd__law_lines _ fn__law_lines := ⟨ok__law_lines (cls := fun _ => 0) (base := base) C F__law_lines , He.glo_ok X G (c.fact 5 (f := .glo "_law_lines") rfl), F__law_lines.kp⟩
  have D__law_there : DefG P w K mg base (fun _ => 0) 1 "_law_there" _ fd__law_there _ fn__law_there := ⟨ok__law_there (cls := fun _ => 0) (base := base) C F__law_there , He.glo_ok X G (c.fact 6 (f := .glo "_law_there") rfl), F__law_there.kp⟩
  have D__law_fills : DefG P w K mg base (fun _ => 0) 1 "_law_fills" _ fd__law_fills _ fn__law_fills := ⟨ok__law_fills (cls := fun _ => 0) (base := base) C F__law_fills , He.glo_ok X G (c.fact 7 (f := .glo "_law_fills") rfl), F__law_fills.kp⟩
  have D__law_reached : DefG P w K mg base (fun _ => 0) 1 "_law_reached" _ fd__law_reached _ fn__law_reached := ⟨ok__law_reached (cls := fun _ => 0) (base := base) C F__law_reached , He.glo_ok X G (c.fact 8 (f := .glo "_law_reached") rfl), F__law_reached.kp⟩
  have D_lines_of : DefG P w K mg base (fun _ => 0) 2 "lines_of" _ fd_lines_of _ fn_lines_of := ⟨ok_lines_of (cls := fun _ => 0) (base := base) C F_lines_of D_cases D_join_cases b0 b1, He.glo_ok X G (c.fact 9 (f := .glo "lines_of") rfl), F_lines_of.kp⟩
  have D__law_pick : DefG P w K mg base (fun _ => 0) 2 "_law_pick" _ fd__law_pick _ fn__law_pick := ⟨ok__law_pick (cls := fun _ => 0) (base := base) C F__law_pick D__law_take b3, He.glo_ok X G (c.fact 10 (f := .glo "_law_pick") rfl), F__law_pick.kp⟩
  have D__law_some : DefG P w K mg base (fun _ => 0) 2 "_law_some" _ fd__law_some _ fn__law_some := ⟨ok__law_some (cls := fun _ => 0) (base := base) C F__law_some D__law_take b3, He.glo_ok X G (c.fact 11 (f := .glo "_law_some") rfl), F__law_some.kp⟩
  have D__law_cut : DefG P w K mg base (fun _ => 0) 2 "_law_cut" _ fd__law_cut _ fn__law_cut := ⟨ok__law_cut (cls := fun _ => 0) (base := base) C F__law_cut D__law_take b3, He.glo_ok X G (c.fact 12 (f := .glo "_law_cut") rfl), F__law_cut.kp⟩
  have D_rule : DefG P w K mg base (fun _ => 0) 3 "rule" _ fd_rule _ fn_rule := ⟨ok_rule (cls := fun _ => 0) (base := base) C F_rule D_lines_of b2, He.glo_ok X G (c.fact 13 (f := .glo "rule") rfl), F_rule.kp⟩
  have D__law_rule : DefG P w K mg base (fun _ => 0) 3 "_law_rule" _ fd__law_rule _ fn__law_rule := ⟨ok__law_rule (cls := fun _ => 0) (base := base) C F__law_rule D__law_there D__law_fills D__law_pick D__law_some D__law_take b3 b4 b5 b6 b7, He.glo_ok X G (c.fact 14 (f := .glo "_law_rule") rfl), F__law_rule.kp⟩
  have D__law_words : DefG P w K mg base (fun _ => 0) 3 "_law_words" _ fd__law_words _ fn__law_words := ⟨ok__law_words (cls := fun _ => 0) (base := base) C F__law_words D__law_pick D__law_take b3 b6, He.glo_ok X G (c.fact 15 (f := .glo "_law_words") rfl), F__law_words.kp⟩
  have D__law_frame : DefG P w K mg base (fun _ => 0) 3 "_law_frame" _ fd__law_frame _ fn__law_frame := ⟨ok__law_frame (cls := fun _ => 0) (base := base) C F__law_frame D__law_pick b6, He.glo_ok X G (c.fact 16 (f := .glo "_law_frame") rfl), F__law_frame.kp⟩
  have D__law_machine : DefG P w K mg base (fun _ => 0) 4 "_law_machine" _ fd__law_machine _ fn__law_machine := ⟨ok__law_machine (cls := fun _ => 0) (base := base) C F__law_machine D__law_words D__law_take D__law_frame D__law_lines D__law_rule b3 b8 b9 b10 b11, He.glo_ok X G (c.fact 17 (f := .glo "_law_machine") rfl), F__law_machine.kp⟩
  have D__law_right : DefG P w K mg base (fun _ => 0) 5 "_law_right" _ fd__law_right _ fn__law_right := ⟨ok__law_right (cls := fun _ => 0) (base := base) C F__law_right D__law_machine D__law_lines D_lines_of D_rule D__law_cut D_reached D__law_reached b2 b10 b12 b13 b14 b15 b16 b17 b18 b19, He.glo_ok X G (c.fact 18 (f := .glo "_law_right") rfl), F__law_right.kp⟩
  exact ok_law (cls := fun _ => 0) (base := base) C F_law D__law_right D__law_hand b20 b21

end Lk10

namespace Lk10
open PySem PySem.Spec L2 MI

end Lk10

theorem PySem.Challenge.cw_strangeseats_k10_rules_and_stands_reache_holds : PySem.Challenge.rw_strangeseats_k10_rules_and_stands_reache.Holds := by
  w_on; o_law
  refine HandSHeadRun.head_any (r := PySem.W.OpenLaw.row PySem.Challenge.rw_strangeseats_k10_rules_and_stands_reache) (q := PySem.W.view (PySem.W.OpenLaw.row PySem.Challenge.rw_strangeseats_k10_rules_and_stands_reache).prog [25]) (H := Lk10.hk) (ob := Lk10.ob) (M := 4000) (loose := Lk10.loose) (d := HandSHeadRun.topDef (PySem.W.OpenLaw.row PySem.Challenge.rw_strangeseats_k10_rules_and_stands_reache).prog 25) (kwd := []) Lk10.ob_eq
    (by kernel_rfl) (fun s => by kernel_rfl) Lk10.run (by kernel_rfl) (by kernel_rfl) (by kernel_rfl) (by rfl) (by first | assumption | decide +kernel) (by decide +kernel) ⟨rfl, rfl, rfl, rfl, rfl, by decide +kernel⟩ ?hw ?hc
  case hw => w_witness2
  case hc =>
    refine MI.walkG (l := PySem.Challenge.rw_strangeseats_k10_rules_and_stands_reache) (n := 63) (k := 6) (x := "_law_script") rfl (by decide) (by kernel_rfl) ⟨rfl, by decide, by decide⟩ ?F
    intro w mg fa h Y G hmg0
    obtain ⟨K, KX, c, cg⟩ := Y
    have hmg : mg ("law" : PySem.Str) = some (.ref fa) := by
      have e : (HandSHeadRun.topDef (PySem.W.OpenLaw.row PySem.Challenge.rw_strangeseats_k10_rules_and_stands_reache).prog 25).name = ("law" : PySem.Str) := by kernel_rfl
      rw [← e]
      exact hmg0
    obtain ⟨fd, hb, hF⟩ := Lk10.facts (P := (PySem.Challenge.rw_strangeseats_k10_rules_and_stands_reache).prog) (w := w) KX G hmg c cg
    exact ⟨K, fd, _, KX, hb, fun H a ns hl hS => MI.law_start hS (Lk10.law_run ns hl), hF⟩


