import PyProof.Rows.All
import HandS.ForMost
import HandS.Walk
import HandS.Defaults
import KE.KDictKeyed
import HandS.TupAny
import HandS.Wide
import HandS.Deep
import KE.GoesEnum
import HandS.MakeKwOnly
import HandS.Style
import HandS.Conv
import PyProof.DictMoreH
import KE.SortData
import KE.KDictSum
import KE.KDictCopyH
import HandS.Head0
import HandS.Head1
import HandS.Head2
import HandS.HeadEnd
import HandS.HeadHook1
import HandS.HeadHook2
import PySem.Challenge.RW_strangeseats_k08_frames_all
set_option Elab.async false
set_option linter.all false
set_option maxRecDepth 1000000
set_option maxHeartbeats 4000001
namespace MI
open PySem PySem.Spec L2

/-- the written part, the program, the world -/
structure KX where
  K : PySem.W.Frag
  P : Program
  w : World
def _root_.L2.Cx.kx (X : Cx) : KX := ⟨X.K, X.prog, X.w⟩

/-- data: what a value is, tuples and frozen containers by what is in them -/
inductive D where
  | non | bl (b : Bool) | int (i : Int) | str (x : Str)
  | tup (ds : List D) | lst (ds : List D) | dic (kvs : List (D × D)) | dit (kvs : List (D × D)) | set (ds : List D)
  | obj (n : Nat) | scr (ns : List Int)
instance : Inhabited D := ⟨.non⟩
/-- an object of the store -/
inductive O where
  | lst (ds : List D)
  | ins (c : Nat) (fs : List (Str × D))
abbrev Sto := List O
structure MS where
  sl : List (Option D)
  st : Sto
inductive R (α : Type) where
  | ok (a : α) (m : MS)
  | bad
abbrev Den (α : Type) := MS → R α
@[inline] def Den.bind {α β : Type} (f : Den α) (g : α → Den β) : Den β := fun m => match f m with
  | .ok a m' => g a m'
  | .bad => .bad
theorem bind_ok {α β : Type} {f : Den α} {g : α → Den β} {m : MS} {b : β} {m' : MS} (h : Den.bind f g m = .ok b m') : ∃ a m1, f m = .ok a m1 ∧ g a m1 = .ok b m' := by
  unfold Den.bind at h
  cases e : f m with
  | ok a m1 => rw [e] at h; exact ⟨a, m1, rfl, h⟩
  | bad => rw [e] at h; cases h
@[inline] def Den.ret {α : Type} (a : α) : Den α := fun m => .ok a m
/-- a part that may not be: bad -/
@[inline] def Den.opt {α : Type} (o : Option α) : Den α := fun m => match o with
  | some a => .ok a m
  | none => .bad
theorem opt_ok {α : Type} {o : Option α} {m m' : MS} {a : α} (h : Den.opt o m = .ok a m') : o = some a ∧ m' = m := by
  unfold Den.opt at h
  cases o with
  | none => cases h
  | some b => cases h; exact ⟨rfl, rfl⟩

/-- what an address of the ghost heap is -/
inductive Tag where
  | frz | frm | slot (i : Nat) | st (n : Nat) | fld (n : Nat) (f : Str)
  deriving DecidableEq
abbrev Gh := Addr → Option (Tag × HO)
def Zof (G : Gh) : Hp := fun a => match G a with
  | some (.frz, o) => some o
  | _ => none
theorem zof_of {G : Gh} {a : Addr} {o : HO} (h : G a = some (.frz, o)) : Zof G a = some o := by unfold Zof; rw [h]
theorem of_zof {G : Gh} {a : Addr} {o : HO} (h : Zof G a = some o) : G a = some (.frz, o) := by
  unfold Zof at h
  split at h
  · next x e => rw [e]; cases h; rfl
  · cases h
def putG (G : Gh) (a : Addr) (t : Tag) (o : HO) : Gh := fun b => if b = a then some (t, o) else G b
theorem putG_same {G : Gh} {a : Addr} {t : Tag} {o : HO} : putG G a t o a = some (t, o) := by unfold putG; rw [if_pos rfl]
theorem putG_ne {G : Gh} {a b : Addr} {t : Tag} {o : HO} (h : b ≠ a) : putG G a t o b = G b := by unfold putG; rw [if_neg h]

/-- the key of a dict as data -/
def kD : Key → D
  | .inl i => .int i
  | .inr x => .str x
/-- the dict's very object -/
def rawAt (a : Addr) (o : Obj) : Heap → Prop := fun h => h.get? a = some o
def hoN (a : Addr) (o : Obj) : HO := .ext (rawAt a o)
abbrev XS := List (NestedKey × Addr × Value)
/-- a dict's object whose keys are tuples: its entries -/
structure RawN (K : KX) (a : Addr) (o : Obj) (xs : XS) : Prop where
  len : xs.length ≤ sizeLine
  ns : (a == sysModules) = false
  exact' : o.ExactDict
  ent : ∃ es ep, o.data = .dict es ep ∧ es.toList = xs.map (entryOfKey (nestedKind K.P K.w))
  nd : (xs.map (·.1)).Nodup
  dp : ∀ x ∈ xs, x.1.depth ≤ 8
mutual
def toNK : D → Option NestedKey
  | .non => some .none
  | .int i => some (.num i)
  | .str x => some (.text x)
  | .tup ds => (toNKs ds).map .tup
  | _ => none
def toNKs : List D → Option (List NestedKey)
  | [] => some []
  | d :: ds => match toNK d, toNKs ds with
    | some k, some ks => some (k :: ks)
    | _, _ => none
end
mutual
/-- a value and its data, over the frozen part Z; al: where the store's objects stand -/
inductive DV (K : KX) (Z : Hp) (al : List Addr) : V → D → Prop
  | non : DV K Z al .non .non
  | bl (b : Bool) : DV K Z al (.bl b) (.bl b)
  | int (i : Int) : DV K Z al (.int i) (.int i)
  | str (x : Str) : DV K Z al (.str x) (.str x)
  | tup {a : Addr} {xs : List V} {ds : List D} : SqT K.K Z a xs → DVs K Z al xs ds → DV K Z al (.ref a) (.tup ds)
  | lst {a : Addr} {xs : List V} {ds : List D} : Z a = some (.lst xs) → DVs K Z al xs ds → DV K Z al (.ref a) (.lst ds)
  | scr {a : Addr} {ns : List Int} : SqL K.K Z a (ns.map V.int) → DV K Z al (.ref a) (.scr ns)
  | dicK {a : Addr} {kvs : List (Key × V)} {ds : List (D × D)} : Rd Z a (.dK kvs) → ds.map Prod.fst = kvs.map (fun q => kD q.1) → DVs K Z al (kvs.map Prod.snd) (ds.map Prod.snd) → DV K Z al (.ref a) (.dic ds)
  | ditN {a : Addr} {o : Obj} {xs : XS} {vs : List V} {ds : List (D × D)} : Z a = some (hoN a o) → RawN K a o xs → DVs K Z al (xs.map fun x => V.ref x.2.1) (ds.map Prod.fst) → toNKs (ds.map Prod.fst) = some (xs.map (·.1)) → Vals vs (xs.map (·.2.2)) → DVs K Z al vs (ds.map Prod.snd) → DV K Z al (.ref a) (.dit ds)
  | obj {n : Nat} {a : Addr} : al[n]? = some a → DV K Z al (.ref a) (.obj n)
inductive DVs (K : KX) (Z : Hp) (al : List Addr) : List V → List D → Prop
  | nil : DVs K Z al [] []
  | cons {v : V} {vs : List V} {d : D} {ds : List D} : DV K Z al v d → DVs K Z al vs ds → DVs K Z al (v :: vs) (d :: ds)
end
section
variable {K : KX} {Z Z' : Hp} {al al' : List Addr}
theorem Same.tupS {H H' : Hp} {a : Addr} {xs : List V} (e : Same H H') (h : SqT K.K H a xs) : SqT K.K H' a xs := by
  rcases h with (h | ⟨o, h⟩) | h
  · exact .inl (.inl (e _ _ h))
  · exact .inl (.inr ⟨o, e _ _ h⟩)
  · exact .inr h
theorem Same.rd {H H' : Hp} {a : Addr} {o : HO} (e : Same H H') (h : Rd H a o) : Rd H' a o := by
  rcases h with h | ⟨u, h⟩
  · exact .inl (e _ _ h)
  · exact .inr ⟨u, e _ _ h⟩
mutual
theorem DV.mono (s : Same Z Z') (p : al <+: al') : ∀ {v : V} {d : D}, DV K Z al v d → DV K Z' al' v d
  | _, _, .non => .non
  | _, _, .bl b => .bl b
  | _, _, .int i => .int i
  | _, _, .str x => .str x
  | _, _, .tup h r => .tup (Same.tupS s h) (DVs.mono s p r)
  | _, _, .lst h r => .lst (s _ _ h) (DVs.mono s p r)
  | _, _, .scr h => .scr (L2.Same.seq s h)
  | _, _, .dicK h e r => .dicK (Same.rd s h) e (DVs.mono s p r)
  | _, _, .ditN h r k n v c => .ditN (s _ _ h) r (DVs.mono s p k) n v (DVs.mono s p c)
  | _, _, .obj h => .obj (by
      obtain ⟨t, rfl⟩ := p
      rw [List.getElem?_append_left (List.getElem?_eq_some_iff.mp h).1]
      exact h)
theorem DVs.mono (s : Same Z Z') (p : al <+: al') : ∀ {vs : List V} {ds : List D}, DVs K Z al vs ds → DVs K Z' al' vs ds
  | _, _, .nil => .nil
  | _, _, .cons h r => .cons (DV.mono s p h) (DVs.mono s p r)
end
theorem DVs.length : ∀ {vs : List V} {ds : List D}, DVs K Z al vs ds → vs.length = ds.length
  | _, _, .nil => rfl
  | _, _, .cons _ r => by rw [List.length_cons, List.length_cons, DVs.length r]
theorem DVs.get : ∀ {vs : List V} {ds : List D} {i : Nat} {d : D}, DVs K Z al vs ds → ds[i]? = some d → ∃ v, vs[i]? = some v ∧ DV K Z al v d
  | _, _, _, _, .nil, h => by simp at h
  | _, _, 0, _, .cons h _, e => by simp at e; subst e; exact ⟨_, rfl, h⟩
  | _, _, i + 1, _, .cons _ r, e => by
    obtain ⟨v, h1, h2⟩ := DVs.get (i := i) r (by simpa using e)
    exact ⟨v, by simpa using h1, h2⟩
theorem DVs.getV : ∀ {vs : List V} {ds : List D} {i : Nat} {v : V}, DVs K Z al vs ds → vs[i]? = some v → ∃ d, ds[i]? = some d ∧ DV K Z al v d
  | _, _, _, _, .nil, h => by simp at h
  | _, _, 0, _, .cons h _, e => by simp at e; subst e; exact ⟨_, rfl, h⟩
  | _, _, i + 1, _, .cons _ r, e => by
    obtain ⟨v, h1, h2⟩ := DVs.getV (i := i) r (by simpa using e)
    exact ⟨v, by simpa using h1, h2⟩
theorem DVs.append : ∀ {vs ws : List V} {ds es : List D}, DVs K Z al vs ds → DVs K Z al ws es → DVs K Z al (vs ++ ws) (ds ++ es)
  | _, _, _, _, .nil, s => s
  | _, _, _, _, .cons h r, s => .cons h (DVs.append r s)
theorem DVs.set {v : V} {d : D} (h : DV K Z al v d) : ∀ {vs : List V} {ds : List D} (i : Nat), DVs K Z al vs ds → DVs K Z al (vs.set i v) (ds.set i d)
  | _, _, _, .nil => .nil
  | _, _, 0, .cons _ r => .cons h r
  | _, _, i + 1, .cons q r => .cons q (DVs.set h i r)
theorem DVs.take : ∀ {vs : List V} {ds : List D} (n : Nat), DVs K Z al vs ds → DVs K Z al (vs.take n) (ds.take n)
  | _, _, 0, _ => .nil
  | _, _, _ + 1, .nil => .nil
  | _, _, n + 1, .cons h r => .cons h (DVs.take n r)
theorem DVs.drop : ∀ {vs : List V} {ds : List D} (n : Nat), DVs K Z al vs ds → DVs K Z al (vs.drop n) (ds.drop n)
  | _, _, 0, r => r
  | _, _, _ + 1, .nil => .nil
  | _, _, n + 1, .cons _ r => DVs.drop n r
end

/-- a container's object and its data -/
def CO (K : KX) (Z : Hp) (al : List Addr) (ad : Addr) : HO → D → Prop
  | .lst xs, .lst ds => DVs K Z al xs ds
  | .ext φ, .dit ds => ∃ (o : Obj) (xs : XS) (vs : List V), φ = rawAt ad o ∧ RawN K ad o xs ∧ DVs K Z al (xs.map fun x => V.ref x.2.1) (ds.map Prod.fst) ∧ toNKs (ds.map Prod.fst) = some (xs.map (·.1)) ∧ Vals vs (xs.map (·.2.2)) ∧ DVs K Z al vs (ds.map Prod.snd)
  | .dK kvs, .dic ds => ds.map Prod.fst = kvs.map (fun q => kD q.1) ∧ DVs K Z al (kvs.map Prod.snd) (ds.map Prod.snd)
  | _, _ => False
theorem CO.mono {K : KX} {Z Z' : Hp} {al al' : List Addr} (s : Same Z Z') (p : al <+: al') : ∀ {a : Addr} {o : HO} {d : D}, CO K Z al a o d → CO K Z' al' a o d := by
  intro a o d h
  unfold CO at h ⊢
  split at h
  · exact DVs.mono s p h
  · obtain ⟨o, xs, vs, h1, h2, h3, h4, h5, h6⟩ := h
    exact ⟨o, xs, vs, h1, h2, DVs.mono s p h3, h4, h5, DVs.mono s p h6⟩
  · exact ⟨h.1, DVs.mono s p h.2⟩
  · exact h.elim
/-- a frozen container is data -/
theorem CO.frz {K : KX} {Z : Hp} {al : List Addr} {a : Addr} {o : HO} {d : D} (h : Z a = some o) (c : CO K Z al a o d) : DV K Z al (.ref a) d := by
  unfold CO at c
  split at c
  · exact .lst h c
  · obtain ⟨o, xs, vs, rfl, h2, h3, h4, h5, h6⟩ := c
    exact .ditN h h2 h3 h4 h5 h6
  · exact .dicK (.inl h) c.1 c.2
  · exact c.elim

/-- how the ghost heap may go on -/
structure Ev (G : Gh) (al : List Addr) (G' : Gh) (al' : List Addr) : Prop where
  frz : ∀ a o, G a = some (.frz, o) → G' a = some (.frz, o)
  frm : ∀ a o, G a = some (.frm, o) → G' a = some (.frm, o)
  al : al <+: al'
theorem Ev.refl {G : Gh} {al : List Addr} : Ev G al G al := ⟨fun _ _ h => h, fun _ _ h => h, List.prefix_refl _⟩
theorem Ev.trans {G G1 G2 : Gh} {al al1 al2 : List Addr} (a : Ev G al G1 al1) (b : Ev G1 al1 G2 al2) : Ev G al G2 al2 :=
  ⟨fun x o h => b.frz x o (a.frz x o h), fun x o h => b.frm x o (a.frm x o h), a.al.trans b.al⟩
theorem Ev.same {G G' : Gh} {al al' : List Addr} (e : Ev G al G' al') : Same (Zof G) (Zof G') := fun _ _ h => zof_of (e.frz _ _ (of_zof h))
theorem DV.ev {K : KX} {G G' : Gh} {al al' : List Addr} {v : V} {d : D} (h : DV K (Zof G) al v d) (e : Ev G al G' al') : DV K (Zof G') al' v d := h.mono e.same e.al
theorem DVs.ev {K : KX} {G G' : Gh} {al al' : List Addr} {v : List V} {d : List D} (h : DVs K (Zof G) al v d) (e : Ev G al G' al') : DVs K (Zof G') al' v d := h.mono e.same e.al

/-- .. of the frozen part alone -/
structure EvZ (G : Gh) (al : List Addr) (G' : Gh) (al' : List Addr) : Prop where
  frz : ∀ a o, G a = some (.frz, o) → G' a = some (.frz, o)
  al : al <+: al'
theorem Ev.z {G G' : Gh} {al al' : List Addr} (e : Ev G al G' al') : EvZ G al G' al' := ⟨e.frz, e.al⟩
theorem EvZ.trans {G G1 G2 : Gh} {al al1 al2 : List Addr} (a : EvZ G al G1 al1) (b : EvZ G1 al1 G2 al2) : EvZ G al G2 al2 := ⟨fun x o h => b.frz x o (a.frz x o h), a.al.trans b.al⟩
theorem EvZ.same {G G' : Gh} {al al' : List Addr} (e : EvZ G al G' al') : Same (Zof G) (Zof G') := fun _ _ h => zof_of (e.frz _ _ (of_zof h))
theorem DVs.evz {K : KX} {G G' : Gh} {al al' : List Addr} {v : List V} {d : List D} (h : DVs K (Zof G) al v d) (e : EvZ G al G' al') : DVs K (Zof G') al' v d := h.mono e.same e.al
theorem DV.evz {K : KX} {G G' : Gh} {al al' : List Addr} {v : V} {d : D} (h : DV K (Zof G) al v d) (e : EvZ G al G' al') : DV K (Zof G') al' v d := h.mono e.same e.al

/-- an object of the store and what stands for it -/
def SO (K : KX) (cls : Nat → Addr) (G : Gh) (al : List Addr) (n : Nat) (a : Addr) : O → Prop
  | .lst ds => ∃ xs, G a = some (.st n, .lst xs) ∧ DVs K (Zof G) al xs ds
  | .ins _ _ => False
/-- the heap's part of the relation -/
structure Hst (K : KX) (cls : Nat → Addr) (G : Gh) (al : List Addr) (st : Sto) (H : Hp) : Prop where
  gh : ∀ a t o, G a = some (t, o) → H a = some o
  len : al.length = st.length
  sto : ∀ n o, st[n]? = some o → ∃ a, al[n]? = some a ∧ SO K cls G al n a o
structure Rst (K : KX) (cls : Nat → Addr) (own : Nat → Bool) (G : Gh) (al : List Addr) (m : MS) (σ : St) (H : Hp) : Prop where
  hst : Hst K cls G al m.st H
  len : σ.length = m.sl.length
  val : ∀ i d, m.sl[i]? = some (some d) → own i = false → ∃ v, σ[i]? = some (some v) ∧ DV K (Zof G) al v d
  own : ∀ i d, m.sl[i]? = some (some d) → own i = true → ∃ a o, σ[i]? = some (some (.ref a)) ∧ G a = some (.slot i, o) ∧ CO K (Zof G) al a o d

theorem Hst.zh {K : KX} {cls : Nat → Addr} {G : Gh} {al : List Addr} {st : Sto} {H : Hp} (h : Hst K cls G al st H) : Same (Zof G) H := fun a o e => h.gh a _ o (of_zof e)
theorem Rst.zh {K : KX} {cls : Nat → Addr} {own : Nat → Bool} {G : Gh} {al : List Addr} {m : MS} {σ : St} {H : Hp} (h : Rst K cls own G al m σ H) : Same (Zof G) H := h.hst.zh

/-- the reading of an expression's denotation -/
def tD (K : KX) (cls : Nat → Addr) (own : Nat → Bool) (f : Den D) : TE := fun σ H Q => ∃ G al m d m', Rst K cls own G al m σ H ∧ f m = .ok d m' ∧
  ∀ G' al' v H', Ev G al G' al' → Rst K cls own G' al' m' σ H' → DV K (Zof G') al' v d → Q v H'
/-- .. of a list of expressions -/
def tDs (K : KX) (cls : Nat → Addr) (own : Nat → Bool) (f : Den (List D)) : TA := fun σ H Q => ∃ G al m d m', Rst K cls own G al m σ H ∧ f m = .ok d m' ∧
  ∀ G' al' v H', Ev G al G' al' → Rst K cls own G' al' m' σ H' → DVs K (Zof G') al' v d → Q v H'
/-- .. of a test -/
def tDb (K : KX) (cls : Nat → Addr) (own : Nat → Bool) (f : Den Bool) : TT := fun σ H Q => ∃ G al m d m', Rst K cls own G al m σ H ∧ f m = .ok d m' ∧
  ∀ G' al' H', Ev G al G' al' → Rst K cls own G' al' m' σ H' → Q d H'
end MI

namespace MI
open PySem PySem.Spec L2

theorem pe_imp {X : Cx} {e : Expr} {t t' : TE} (h : PE X e t) (i : ∀ σ H Q, t' σ H Q → t σ H Q) : PE X e t' := ⟨fun pins s σ H Q I q => h.run pins s σ H Q I (i σ H Q q)⟩
theorem pt_imp {X : Cx} {e : Expr} {t t' : TT} (h : PT X e t) (i : ∀ σ H Q, t' σ H Q → t σ H Q) : PT X e t' := ⟨fun pins s σ H Q I q => h.run pins s σ H Q I (i σ H Q q)⟩
theorem pa_imp {X : Cx} {e : List Expr} {t t' : TA} (h : PA X e t) (i : ∀ σ H Q, t' σ H Q → t σ H Q) : PA X e t' := ⟨fun pos pins s σ H Q I q => h.run pos pins s σ H Q I (i σ H Q q)⟩
theorem ps_imp {X : Cx} {e : Stmt} {t t' : TS} (h : PS X e t) (i : ∀ D σ H, t' D σ H → t D σ H) : PS X e t' := ⟨fun pins s σ H D I q => h.run pins s σ H D I (i D σ H q)⟩
theorem pss_imp {X : Cx} {e : List Stmt} {t t' : TS} (h : PSs X e t) (i : ∀ D σ H, t' D σ H → t D σ H) : PSs X e t' := ⟨fun pins s σ H D I q => h.run pins s σ H D I (i D σ H q)⟩

section
variable {K : KX} {cls : Nat → Addr} {own : Nat → Bool} {G : Gh} {al : List Addr} {m : MS} {σ : St} {H : Hp} {p : Addr} {o : HO} {t : Tag}
/-- a new object beside -/
theorem Hst.fresh {st : Sto} (r : Hst K cls G al st H) (h : H p = none) : Hst K cls G al st (upd H p o) :=
  ⟨fun a t u e => by
    have : H a = some u := r.gh a t u e
    rw [upd_ne (ne_of_none this h)]; exact this, r.len, r.sto⟩
theorem Rst.fresh (r : Rst K cls own G al m σ H) (h : H p = none) : Rst K cls own G al m σ (upd H p o) := ⟨r.hst.fresh h, r.len, r.val, r.own⟩
theorem Hst.nog {st : Sto} (r : Hst K cls G al st H) (h : H p = none) : G p = none := by
  cases e : G p with
  | none => rfl
  | some x => obtain ⟨t, u⟩ := x; rw [r.gh p t u e] at h; cases h
theorem ev_put (h : G p = none) : Ev G al (putG G p t o) al := by
  have ne : ∀ {a x}, G a = some x → a ≠ p := fun e z => by subst z; rw [h] at e; cases e
  exact ⟨fun a o e => by rw [putG_ne (ne e)]; exact e, fun a o e => by rw [putG_ne (ne e)]; exact e, List.prefix_refl _⟩
theorem SO.put {n : Nat} {a : Addr} {ob : O} (h : G p = none) (s : SO K cls G al n a ob) : SO K cls (putG G p t o) al n a ob := by
  unfold SO at s ⊢
  cases ob with
  | lst ds =>
    obtain ⟨xs, e, r⟩ := s
    refine ⟨xs, ?_, r.ev (ev_put h)⟩
    rw [putG_ne (by intro z; subst z; rw [h] at e; cases e)]; exact e
  | ins c fs => exact s
/-- it is told what it is -/
theorem Hst.tag {st : Sto} (r : Hst K cls G al st H) (h : G p = none) (ho : H p = some o) : Hst K cls (putG G p t o) al st H := by
  refine ⟨fun a t' u e => ?_, r.len, fun n ob e => ?_⟩
  · by_cases hp : a = p
    · subst hp; rw [putG_same] at e; cases e; exact ho
    · rw [putG_ne hp] at e; exact r.gh a t' u e
  · obtain ⟨a, h1, h2⟩ := r.sto n ob e
    exact ⟨a, h1, h2.put h⟩
theorem Rst.tag (r : Rst K cls own G al m σ H) (h : G p = none) (ho : H p = some o) : Rst K cls own (putG G p t o) al m σ H := by
  refine ⟨r.hst.tag h ho, r.len, fun i d e f => ?_, fun i d e f => ?_⟩
  · obtain ⟨v, h1, h2⟩ := r.val i d e f
    exact ⟨v, h1, h2.ev (ev_put h)⟩
  · obtain ⟨a, ob, h1, h2, h3⟩ := r.own i d e f
    have ev : Ev G al (putG G p t o) al := ev_put h
    refine ⟨a, ob, h1, ?_, h3.mono ev.same ev.al⟩
    rw [putG_ne (by intro z; subst z; rw [h] at h2; cases h2)]; exact h2
end

/-! ### handles -/
inductive Hd where
  | val (d : D)
  | slot (i : Nat)
def look : Hd → MS → Option D
  | .slot i, m => match m.sl[i]? with
    | some (some d) => some d
    | _ => none
  | .val (.obj n), m => match m.st[n]? with
    | some (.lst ds) => some (.lst ds)
    | some (.ins _ _) => some (.obj n)
    | none => none
  | .val d, _ => some d
def HV (K : KX) (own : Nat → Bool) (G : Gh) (al : List Addr) (σ : St) (v : V) : Hd → Prop
  | .val d => DV K (Zof G) al v d
  | .slot i => own i = true ∧ σ[i]? = some (some v)
theorem HV.ev {K : KX} {own : Nat → Bool} {G G' : Gh} {al al' : List Addr} {σ : St} {v : V} {h : Hd} (r : HV K own G al σ v h) (e : Ev G al G' al') : HV K own G' al' σ v h := by
  cases h with
  | val d => exact DV.ev r e
  | slot i => exact r
/-- what is to be read at a value now -/
def CR (K : KX) (H Z : Hp) (al : List Addr) (v : V) : D → Prop
  | .lst ds => ∃ a xs, v = .ref a ∧ H a = some (.lst xs) ∧ DVs K Z al xs ds
  | .dic ds => ∃ (a : Addr) (kvs : List (Key × V)), v = .ref a ∧ Rd H a (.dK kvs) ∧ ds.map Prod.fst = kvs.map (fun q => kD q.1) ∧ DVs K Z al (kvs.map Prod.snd) (ds.map Prod.snd)
  | .dit ds => ∃ (a : Addr) (o : Obj) (xs : XS) (vs : List V), v = .ref a ∧ H a = some (hoN a o) ∧ RawN K a o xs ∧ DVs K Z al (xs.map fun x => V.ref x.2.1) (ds.map Prod.fst) ∧ toNKs (ds.map Prod.fst) = some (xs.map (·.1)) ∧ Vals vs (xs.map (·.2.2)) ∧ DVs K Z al vs (ds.map Prod.snd)
  | d => DV K Z al v d
theorem DV.cr {K : KX} {H Z : Hp} {al : List Addr} {v : V} {d : D} (s : Same Z H) (h : DV K Z al v d) : CR K H Z al v d := by
  cases d with
  | lst ds => cases h with | lst h r => exact ⟨_, _, rfl, s _ _ h, r⟩
  | dic ds => cases h with
    | dicK h e r => exact ⟨_, _, rfl, Same.rd s h, e, r⟩
  | dit ds => cases h with
    | ditN h1 h2 h3 h4 h5 h6 => exact ⟨_, _, _, _, rfl, s _ _ h1, h2, h3, h4, h5, h6⟩
  | _ => exact h
theorem CO.cr {K : KX} {H Z : Hp} {al : List Addr} {a : Addr} {o : HO} {d : D} (h : H a = some o) (c : CO K Z al a o d) : CR K H Z al (.ref a) d := by
  unfold CO at c
  split at c
  · exact ⟨_, _, rfl, h, c⟩
  · obtain ⟨o, xs, vs, rfl, h2, h3, h4, h5, h6⟩ := c
    exact ⟨a, o, xs, vs, rfl, h, h2, h3, h4, h5, h6⟩
  · exact ⟨_, _, rfl, .inl h, c.1, c.2⟩
  · exact c.elim
theorem look_cr {K : KX} {cls : Nat → Addr} {own : Nat → Bool} {G : Gh} {al : List Addr} {m : MS} {σ : St} {H : Hp} {v : V} {h : Hd} {d : D} (r : Rst K cls own G al m σ H) (hv : HV K own G al σ v h) (e : look h m = some d) :
    CR K H (Zof G) al v d := by
  cases h with
  | slot i =>
    obtain ⟨ho, hs⟩ := hv
    simp only [look] at e
    split at e
    · next d' e' =>
      cases e
      obtain ⟨a, ob, h1, h2, h3⟩ := r.own i d e' ho
      rw [hs] at h1; cases h1
      exact h3.cr (r.hst.gh a _ ob h2)
    · cases e
  | val d0 =>
    have hv : DV K (Zof G) al v d0 := hv
    cases d0 with
    | obj n =>
      simp only [look] at e
      split at e
      · next ds e' =>
        cases e
        cases hv with
        | obj ha =>
          obtain ⟨a, h1, xs, h2, h3⟩ := r.hst.sto n _ e'
          rw [ha] at h1; cases h1
          exact ⟨_, xs, rfl, r.hst.gh _ _ _ h2, h3⟩
      · next c fs e' => cases e; exact hv
      · cases e
    | _ => simp only [look] at e; cases e; exact hv.cr r.zh

/-- the reading of a handle's denotation -/
def tH (K : KX) (cls : Nat → Addr) (own : Nat → Bool) (f : Den Hd) : TE := fun σ H Q => ∃ G al m d m', Rst K cls own G al m σ H ∧ f m = .ok d m' ∧
  ∀ G' al' v H', Ev G al G' al' → Rst K cls own G' al' m' σ H' → HV K own G' al' σ v d → Q v H'
/-- of a fresh container's -/
def tF (K : KX) (cls : Nat → Addr) (own : Nat → Bool) (f : Den D) : TE := fun σ H Q => ∃ G al m d m', Rst K cls own G al m σ H ∧ f m = .ok d m' ∧
  ∀ G' al' p o H', Ev G al G' al' → Rst K cls own G' al' m' σ H' → H' p = some o → G' p = none → CO K (Zof G') al' p o d → Q (.ref p) H'
inductive HVs (K : KX) (own : Nat → Bool) (G : Gh) (al : List Addr) (σ : St) : List V → List Hd → Prop
  | nil : HVs K own G al σ [] []
  | cons {v : V} {vs : List V} {h : Hd} {hs : List Hd} : HV K own G al σ v h → HVs K own G al σ vs hs → HVs K own G al σ (v :: vs) (h :: hs)
/-- of an argument list's -/
def tHs (K : KX) (cls : Nat → Addr) (own : Nat → Bool) (f : Den (List Hd)) : TA := fun σ H Q => ∃ G al m d m', Rst K cls own G al m σ H ∧ f m = .ok d m' ∧
  ∀ G' al' v H', Ev G al G' al' → Rst K cls own G' al' m' σ H' → HVs K own G' al' σ v d → Q v H'
theorem HVs.ev {K : KX} {own : Nat → Bool} {G G' : Gh} {al al' : List Addr} {σ : St} (e : Ev G al G' al') : ∀ {vs : List V} {hs : List Hd}, HVs K own G al σ vs hs → HVs K own G' al' σ vs hs
  | _, _, .nil => .nil
  | _, _, .cons h r => .cons (h.ev e) (HVs.ev e r)

section
variable (cls : Nat → Addr) (own : Nat → Bool) (X : Cx)
abbrev SE (e : Expr) (f : Den D) : Prop := PE X e (tD X.kx cls own f)
abbrev SF (e : Expr) (f : Den D) : Prop := PE X e (tF X.kx cls own f)
abbrev SH (e : Expr) (f : Den Hd) : Prop := PE X e (tH X.kx cls own f)
abbrev SB (e : Expr) (f : Den Bool) : Prop := PT X e (tDb X.kx cls own f)
abbrev SHs (es : List Expr) (f : Den (List Hd)) : Prop := PA X es (tHs X.kx cls own f)
end

/-! ### the denotations -/
def eVar (i : Nat) : Den D := fun m => match m.sl[i]? with
  | some (some d) => .ok d m
  | _ => .bad
def eC (d : D) : Den D := fun m => .ok d m
def hSlot (i : Nat) : Den Hd := fun m => match m.sl[i]? with
  | some (some _) => .ok (.slot i) m
  | _ => .bad
def hVal (f : Den D) : Den Hd := f.bind fun d => .ret (.val d)
def aNil : Den (List Hd) := .ret []
def aCons (f : Den Hd) (r : Den (List Hd)) : Den (List Hd) := f.bind fun d => r.bind fun ds => .ret (d :: ds)
/-- an owned slot is given away: frozen -/
def eMove (i : Nat) : Den D := fun m => match m.sl[i]? with
  | some (some d) => .ok d { m with sl := m.sl.set i none }
  | _ => .bad
/-- a function of two values, read at the end -/
def eOp (g : D → D → Option D) (fa fb : Den Hd) : Den D := fa.bind fun a => fb.bind fun b => fun m => match look a m, look b m with
  | some x, some y => match g x y with
    | some z => .ok z m
    | none => .bad
  | _, _ => .bad
def eUn (g : D → Option D) (fa : Den Hd) : Den D := fa.bind fun a => fun m => match look a m with
  | some x => match g x with
    | some z => .ok z m
    | none => .bad
  | none => .bad
def looks (hs : List Hd) (m : MS) : Option (List D) := hs.mapM (look · m)
/-- a built-in of several values -/
def eFn (g : List D → Option D) (fa : Den (List Hd)) : Den D := fa.bind fun hs => fun m => match looks hs m with
  | some xs => match g xs with
    | some z => .ok z m
    | none => .bad
  | none => .bad

section
variable {cls : Nat → Addr} {own : Nat → Bool} {X : Cx}
/-- fresh things frozen -/
theorem se_of {e : Expr} {f : Den D} (h : SF cls own X e f) : SE cls own X e f := by
  refine pe_imp h fun σ H Q q => ?_
  obtain ⟨G, al, m, d, m', r, e, k⟩ := q
  refine ⟨G, al, m, d, m', r, e, fun G' al' p o H' ev r' hp hn c => ?_⟩
  have ev2 : Ev G' al' (putG G' p .frz o) al' := ev_put hn
  exact k (putG G' p .frz o) al' (.ref p) H' (ev.trans ev2) (r'.tag hn hp) (CO.frz (zof_of putG_same) (c.mono ev2.same ev2.al))
theorem sh_val {e : Expr} {f : Den D} (h : SE cls own X e f) : SH cls own X e (hVal f) := by
  refine pe_imp h fun σ H Q q => ?_
  obtain ⟨G, al, m, d, m', r, e, k⟩ := q
  obtain ⟨d0, m1, e1, e2⟩ := bind_ok e
  cases e2
  exact ⟨G, al, m, d0, _, r, e1, fun G' al' v H' ev r' hv => k G' al' v H' ev r' hv⟩
theorem sh_slot {i : Nat} {x : Str} {pos : Pos} (hN : X.N[i]? = some x) (hv : Vis X.env.scope x) (ho : own i = true) (hd : (x == ("__debug__" : Str)) = false := by decide) (hcd : (x == ("__classdict__" : Str)) = false := by decide) :
    SH cls own X (.Name x pos) (hSlot i) := by
  refine pe_imp (pe_var hN hv hd hcd) fun σ H Q q => ?_
  obtain ⟨G, al, m, d, m', r, e, k⟩ := q
  unfold hSlot at e
  split at e
  · next d' e' =>
    cases e
    obtain ⟨a, ob, h1, h2, h3⟩ := r.own i d' e' ho
    exact ⟨.ref a, h1, k G al _ H .refl r ⟨ho, h1⟩⟩
  · cases e
theorem se_var {i : Nat} {x : Str} {pos : Pos} (hN : X.N[i]? = some x) (hv : Vis X.env.scope x) (ho : own i = false) (hd : (x == ("__debug__" : Str)) = false := by decide) (hcd : (x == ("__classdict__" : Str)) = false := by decide) :
    SE cls own X (.Name x pos) (eVar i) := by
  refine pe_imp (pe_var hN hv hd hcd) fun σ H Q q => ?_
  obtain ⟨G, al, m, d, m', r, e, k⟩ := q
  unfold eVar at e
  split at e
  · next d' e' =>
    cases e
    obtain ⟨v, h1, h2⟩ := r.val i d e' ho
    exact ⟨v, h1, k G al v H .refl r h2⟩
  · cases e
theorem se_int {i j pos} : SE cls own X (.Constant (.int i) j pos) (eC (.int i)) := pe_imp pe_int fun σ H Q ⟨G, al, m, d, m', r, e, k⟩ => by cases e; exact k G al _ H .refl r (.int i)
theorem se_str {i j pos} : SE cls own X (.Constant (.str i) j pos) (eC (.str i)) := pe_imp pe_str fun σ H Q ⟨G, al, m, d, m', r, e, k⟩ => by cases e; exact k G al _ H .refl r (.str i)
theorem se_bl {i j pos} : SE cls own X (.Constant (.bool i) j pos) (eC (.bl i)) := pe_imp pe_bl fun σ H Q ⟨G, al, m, d, m', r, e, k⟩ => by cases e; exact k G al _ H .refl r (.bl i)
theorem se_non {j pos} : SE cls own X (.Constant .none j pos) (eC .non) := pe_imp pe_non fun σ H Q ⟨G, al, m, d, m', r, e, k⟩ => by cases e; exact k G al _ H .refl r .non
/-! arguments -/
theorem sa_nil : SHs cls own X [] aNil := pa_imp pa_nil fun σ H Q ⟨G, al, m, d, m', r, e, k⟩ => by cases e; exact k G al _ H .refl r .nil
theorem sa_cons {e : Expr} {es : List Expr} {f : Den Hd} {fr : Den (List Hd)} (h : SH cls own X e f) (hr : SHs cls own X es fr) (hs : starEach (e :: es) X.env = (false, eval e X.env) :: starEach es X.env := by rfl) : SHs cls own X (e :: es) (aCons f fr) := by
  refine pa_imp (pa_cons h hr hs) fun σ H Q q => ?_
  obtain ⟨G, al, m, d, m', r, e, k⟩ := q
  obtain ⟨d0, m1, e1, e2⟩ := bind_ok e
  obtain ⟨ds, m2, e3, e4⟩ := bind_ok e2
  cases e4
  refine ⟨G, al, m, d0, m1, r, e1, fun G' al' v H' ev r' hv => ?_⟩
  exact ⟨G', al', m1, ds, _, r', e3, fun G2 al2 vs H2 ev2 r2 hvs => k G2 al2 _ H2 (ev.trans ev2) r2 (.cons (hv.ev ev2) hvs)⟩
end
end MI

namespace MI
open PySem PySem.Spec L2

section
variable (K : KX) (cls : Nat → Addr) (own : Nat → Bool) (G : Gh) (al : List Addr) (m : MS) (σ : St)
def Post (d : D) (Q : VK) : Prop := ∀ G' al' v H', Ev G al G' al' → Rst K cls own G' al' m σ H' → DV K (Zof G') al' v d → Q v H'
def PostF (d : D) (Q : VK) : Prop := ∀ G' al' p o H', Ev G al G' al' → Rst K cls own G' al' m σ H' → H' p = some o → G' p = none → CO K (Zof G') al' p o d → Q (.ref p) H'
end
section
variable {K : KX} {cls : Nat → Addr} {own : Nat → Bool} {G : Gh} {al : List Addr} {m : MS} {σ : St} {H : Hp} {d : D} {Q : VK} {v : V} {p : Addr}
theorem Post.keep (k : Post K cls own G al m σ d Q) (r : Rst K cls own G al m σ H) (h : DV K (Zof G) al v d) : Q v H := k G al v H .refl r h
theorem Post.tup {xs : List V} {ds : List D} (k : Post K cls own G al m σ (.tup ds) Q) (r : Rst K cls own G al m σ H) (h : DVs K (Zof G) al xs ds) (hp : H p = none) : Q (.ref p) (upd H p (.tup xs)) := by
  have hn := r.hst.nog hp
  have ev : Ev G al (putG G p .frz (.tup xs)) al := ev_put hn
  exact k _ al _ _ ev ((r.fresh hp).tag hn upd_same) (.tup (.inl (.inl (zof_of putG_same))) (h.ev ev))
theorem PostF.lst {xs : List V} {ds : List D} (k : PostF K cls own G al m σ (.lst ds) Q) (r : Rst K cls own G al m σ H) (h : DVs K (Zof G) al xs ds) (hp : H p = none) : Q (.ref p) (upd H p (.lst xs)) :=
  k G al p _ _ .refl (r.fresh hp) upd_same (r.hst.nog hp) h
end

/-- a rule of two values keeps to g -/
def OpOk (K : KX) (cls : Nat → Addr) (own : Nat → Bool) (r : R2) (g : D → D → Option D) : Prop :=
  ∀ G al m σ H x y da db d Q, Rst K cls own G al m σ H → CR K H (Zof G) al x da → CR K H (Zof G) al y db → g da db = some d → Post K cls own G al m σ d Q → r x y H Q
def UnOk (K : KX) (cls : Nat → Addr) (own : Nat → Bool) (r : V → Hp → VK → Prop) (g : D → Option D) : Prop :=
  ∀ G al m σ H x da d Q, Rst K cls own G al m σ H → CR K H (Zof G) al x da → g da = some d → Post K cls own G al m σ d Q → r x H Q
inductive CRs (K : KX) (H Z : Hp) (al : List Addr) : List V → List D → Prop
  | nil : CRs K H Z al [] []
  | cons {v : V} {vs : List V} {d : D} {ds : List D} : CR K H Z al v d → CRs K H Z al vs ds → CRs K H Z al (v :: vs) (d :: ds)
theorem looks_cr {K : KX} {cls : Nat → Addr} {own : Nat → Bool} {G : Gh} {al : List Addr} {m : MS} {σ : St} {H : Hp} (r : Rst K cls own G al m σ H) : ∀ {vs : List V} {hs : List Hd} {ds : List D},
    HVs K own G al σ vs hs → looks hs m = some ds → CRs K H (Zof G) al vs ds
  | _, _, ds, .nil, e => by
    have e : some [] = some ds := e
    cases e; exact .nil
  | _, _, ds, .cons (h := h) (hs := hs) hv hr, e => by
    unfold looks at e
    rw [List.mapM_cons] at e
    cases e1 : look h m with
    | none => rw [e1] at e; cases e
    | some d =>
      rw [e1] at e
      cases e2 : hs.mapM (look · m) with
      | none => simp [e2] at e
      | some ds2 =>
        simp [e2] at e
        subst e
        exact .cons (look_cr r hv e1) (looks_cr r hr e2)
def FnOkD (K : KX) (cls : Nat → Addr) (own : Nat → Bool) (r : List V → Hp → VK → Prop) (g : List D → Option D) : Prop :=
  ∀ G al m σ H xs da d Q, Rst K cls own G al m σ H → CRs K H (Zof G) al xs da → g da = some d → Post K cls own G al m σ d Q → r xs H Q
def FnOkF (K : KX) (cls : Nat → Addr) (own : Nat → Bool) (r : List V → Hp → VK → Prop) (g : List D → Option D) : Prop :=
  ∀ G al m σ H xs da d Q, Rst K cls own G al m σ H → CRs K H (Zof G) al xs da → g da = some d → PostF K cls own G al m σ d Q → r xs H Q
def OpOkF (K : KX) (cls : Nat → Addr) (own : Nat → Bool) (r : R2) (g : D → D → Option D) : Prop :=
  ∀ G al m σ H x y da db d Q, Rst K cls own G al m σ H → CR K H (Zof G) al x da → CR K H (Zof G) al y db → g da db = some d → PostF K cls own G al m σ d Q → r x y H Q

section
variable {cls : Nat → Addr} {own : Nat → Bool} {X : Cx} {a b : Expr} {fa fb : Den Hd} {pos : Pos}
theorem eOp_ok {g : D → D → Option D} {m m' : MS} {d : D} (e : eOp g fa fb m = .ok d m') : ∃ h1 m1 h2 x y, fa m = .ok h1 m1 ∧ fb m1 = .ok h2 m' ∧ look h1 m' = some x ∧ look h2 m' = some y ∧ g x y = some d := by
  obtain ⟨h1, m1, e1, e⟩ := bind_ok e
  obtain ⟨h2, m2, e2, e⟩ := bind_ok e
  split at e
  · next x y l1 l2 =>
    split at e
    · next z gz => cases e; exact ⟨h1, m1, h2, x, y, e1, e2, l1, l2, gz⟩
    · cases e
  · cases e
theorem eUn_ok {g : D → Option D} {m m' : MS} {d : D} (e : eUn g fa m = .ok d m') : ∃ h1 x, fa m = .ok h1 m' ∧ look h1 m' = some x ∧ g x = some d := by
  obtain ⟨h1, m1, e1, e⟩ := bind_ok e
  split at e
  · next x l1 =>
    split at e
    · next z gz => cases e; exact ⟨h1, x, e1, l1, gz⟩
    · cases e
  · cases e
theorem eFn_ok {g : List D → Option D} {fs : Den (List Hd)} {m m' : MS} {d : D} (e : eFn g fs m = .ok d m') : ∃ hs xs, fs m = .ok hs m' ∧ looks hs m' = some xs ∧ g xs = some d := by
  obtain ⟨h1, m1, e1, e⟩ := bind_ok e
  split at e
  · next x l1 =>
    split at e
    · next z gz => cases e; exact ⟨h1, x, e1, l1, gz⟩
    · cases e
  · cases e
theorem se_op2 {op : Operator} {r : R2} {g : D → D → Option D} (ho : OpR X (binaryOp op) r) (hg : OpOk X.kx cls own r g) (ha : SH cls own X a fa) (hb : SH cls own X b fb) : SE cls own X (.BinOp a op b pos) (eOp g fa fb) := by
  refine pe_imp (pe_op ho ha hb) fun σ H Q q => ?_
  obtain ⟨G, al, m, d, m', r, e, k⟩ := q
  obtain ⟨h1, m1, h2, x, y, e1, e2, l1, l2, gz⟩ := eOp_ok e
  refine ⟨G, al, m, h1, m1, r, e1, fun G1 al1 v H1 ev1 r1 hv1 => ⟨G1, al1, m1, h2, m', r1, e2, fun G2 al2 u H2 ev2 r2 hv2 => ?_⟩⟩
  exact hg G2 al2 m' σ H2 v u x y d Q r2 (look_cr r2 (hv1.ev ev2) l1) (look_cr r2 hv2 l2) gz fun G3 al3 w H3 ev3 r3 dv => k G3 al3 w H3 ((ev1.trans ev2).trans ev3) r3 dv
theorem sf_op2 {op : Operator} {r : R2} {g : D → D → Option D} (ho : OpR X (binaryOp op) r) (hg : OpOkF X.kx cls own r g) (ha : SH cls own X a fa) (hb : SH cls own X b fb) : SF cls own X (.BinOp a op b pos) (eOp g fa fb) := by
  refine pe_imp (pe_op ho ha hb) fun σ H Q q => ?_
  obtain ⟨G, al, m, d, m', r, e, k⟩ := q
  obtain ⟨h1, m1, h2, x, y, e1, e2, l1, l2, gz⟩ := eOp_ok e
  refine ⟨G, al, m, h1, m1, r, e1, fun G1 al1 v H1 ev1 r1 hv1 => ⟨G1, al1, m1, h2, m', r1, e2, fun G2 al2 u H2 ev2 r2 hv2 => ?_⟩⟩
  exact hg G2 al2 m' σ H2 v u x y d Q r2 (look_cr r2 (hv1.ev ev2) l1) (look_cr r2 hv2 l2) gz fun G3 al3 w ob H3 ev3 r3 hp hn c => k G3 al3 w ob H3 ((ev1.trans ev2).trans ev3) r3 hp hn c
theorem se_cmp {op : CmpOp} {r : R2} {g : D → D → Option D} (ho : OpR X (compareOp op) r) (hg : OpOk X.kx cls own r g) (ha : SH cls own X a fa) (hb : SH cls own X b fb) (hm : behindInMarks op b = false := by first | exact nobehind _ (by decide) (by decide) | rfl) :
    SE cls own X (.Compare a [op] [b] pos) (eOp g fa fb) := by
  refine pe_imp (pe_cmpR ho ha hb hm) fun σ H Q q => ?_
  obtain ⟨G, al, m, d, m', r, e, k⟩ := q
  obtain ⟨h1, m1, h2, x, y, e1, e2, l1, l2, gz⟩ := eOp_ok e
  refine ⟨G, al, m, h1, m1, r, e1, fun G1 al1 v H1 ev1 r1 hv1 => ⟨G1, al1, m1, h2, m', r1, e2, fun G2 al2 u H2 ev2 r2 hv2 => ?_⟩⟩
  exact hg G2 al2 m' σ H2 v u x y d Q r2 (look_cr r2 (hv1.ev ev2) l1) (look_cr r2 hv2 l2) gz fun G3 al3 w H3 ev3 r3 dv => k G3 al3 w H3 ((ev1.trans ev2).trans ev3) r3 dv
theorem se_un {op : UnaryOp} {r : V → Hp → VK → Prop} {g : D → Option D} (ho : UnR X (unaryOp op) r) (hg : UnOk X.kx cls own r g) (ha : SH cls own X a fa) : SE cls own X (.UnaryOp op a pos) (eUn g fa) := by
  refine pe_imp (pe_un ho ha) fun σ H Q q => ?_
  obtain ⟨G, al, m, d, m', r, e, k⟩ := q
  obtain ⟨h1, x, e1, l1, gz⟩ := eUn_ok e
  refine ⟨G, al, m, h1, m', r, e1, fun G1 al1 v H1 ev1 r1 hv1 => ?_⟩
  exact hg G1 al1 m' σ H1 v x d Q r1 (look_cr r1 hv1 l1) gz fun G3 al3 w H3 ev3 r3 dv => k G3 al3 w H3 (ev1.trans ev3) r3 dv
/-- a built-in function by its name -/
theorem se_callB {x : Str} {p : Pos} {id : String} {es : List Expr} {r : List V → Hp → VK → Prop} {g : List D → Option D} {fs : Den (List Hd)} (hc : CallR X (.builtin id) r) (hg : FnOkD X.kx cls own r g) (hgl : Gl X x) (hm : X.mg x = none) (hv : bootBuiltins x = some (.builtin id)) (ha : SHs cls own X (a :: es) fs)
    (hn : x ≠ "__name__" := by decide) (hdb : (x == ("__debug__" : Str)) = false := by decide)
    (he : starEach (a :: es) X.env = (false, eval a X.env) :: starEach es X.env := by rfl) (hpl : (backTo pos (starEach es X.env)).any (·.1) = false := by rfl) : SE cls own X (.Call (.Name x p) (a :: es) [] pos) (eFn g fs) := by
  refine pe_imp (pe_callB hc hgl hm hv ha hn hdb he hpl) fun σ H Q q => ?_
  obtain ⟨G, al, m, d, m', r, e, k⟩ := q
  obtain ⟨hs, xs, e1, l1, gz⟩ := eFn_ok e
  refine ⟨G, al, m, hs, m', r, e1, fun G1 al1 v H1 ev1 r1 hv1 => ?_⟩
  exact hg G1 al1 m' σ H1 v xs d Q r1 (looks_cr r1 hv1 l1) gz fun G3 al3 w H3 ev3 r3 dv => k G3 al3 w H3 (ev1.trans ev3) r3 dv
theorem sf_callB {x : Str} {p : Pos} {id : String} {es : List Expr} {r : List V → Hp → VK → Prop} {g : List D → Option D} {fs : Den (List Hd)} (hc : CallR X (.builtin id) r) (hg : FnOkF X.kx cls own r g) (hgl : Gl X x) (hm : X.mg x = none) (hv : bootBuiltins x = some (.builtin id)) (ha : SHs cls own X (a :: es) fs)
    (hn : x ≠ "__name__" := by decide) (hdb : (x == ("__debug__" : Str)) = false := by decide)
    (he : starEach (a :: es) X.env = (false, eval a X.env) :: starEach es X.env := by rfl) (hpl : (backTo pos (starEach es X.env)).any (·.1) = false := by rfl) : SF cls own X (.Call (.Name x p) (a :: es) [] pos) (eFn g fs) := by
  refine pe_imp (pe_callB hc hgl hm hv ha hn hdb he hpl) fun σ H Q q => ?_
  obtain ⟨G, al, m, d, m', r, e, k⟩ := q
  obtain ⟨hs, xs, e1, l1, gz⟩ := eFn_ok e
  refine ⟨G, al, m, hs, m', r, e1, fun G1 al1 v H1 ev1 r1 hv1 => ?_⟩
  exact hg G1 al1 m' σ H1 v xs d Q r1 (looks_cr r1 hv1 l1) gz fun G3 al3 w ob H3 ev3 r3 hp hn c => k G3 al3 w ob H3 (ev1.trans ev3) r3 hp hn c
theorem se_callTy {x : Str} {p : Pos} {id : String} {es : List Expr} {r : List V → Hp → VK → Prop} {g : List D → Option D} {fs : Den (List Hd)} (hc : CallR X (.type id) r) (hg : FnOkD X.kx cls own r g) (hgl : Gl X x) (hm : X.mg x = none) (hv : bootBuiltins x = some (.type id)) (ha : SHs cls own X (a :: es) fs)
    (hn : x ≠ "__name__" := by decide) (hdb : (x == ("__debug__" : Str)) = false := by decide)
    (he : starEach (a :: es) X.env = (false, eval a X.env) :: starEach es X.env := by rfl) (hpl : (backTo pos (starEach es X.env)).any (·.1) = false := by rfl) : SE cls own X (.Call (.Name x p) (a :: es) [] pos) (eFn g fs) := by
  refine pe_imp (pe_callTy hc hgl hm hv ha hn hdb he hpl) fun σ H Q q => ?_
  obtain ⟨G, al, m, d, m', r, e, k⟩ := q
  obtain ⟨hs, xs, e1, l1, gz⟩ := eFn_ok e
  refine ⟨G, al, m, hs, m', r, e1, fun G1 al1 v H1 ev1 r1 hv1 => ?_⟩
  exact hg G1 al1 m' σ H1 v xs d Q r1 (looks_cr r1 hv1 l1) gz fun G3 al3 w H3 ev3 r3 dv => k G3 al3 w H3 (ev1.trans ev3) r3 dv
theorem sf_callTy {x : Str} {p : Pos} {id : String} {es : List Expr} {r : List V → Hp → VK → Prop} {g : List D → Option D} {fs : Den (List Hd)} (hc : CallR X (.type id) r) (hg : FnOkF X.kx cls own r g) (hgl : Gl X x) (hm : X.mg x = none) (hv : bootBuiltins x = some (.type id)) (ha : SHs cls own X (a :: es) fs)
    (hn : x ≠ "__name__" := by decide) (hdb : (x == ("__debug__" : Str)) = false := by decide)
    (he : starEach (a :: es) X.env = (false, eval a X.env) :: starEach es X.env := by rfl) (hpl : (backTo pos (starEach es X.env)).any (·.1) = false := by rfl) : SF cls own X (.Call (.Name x p) (a :: es) [] pos) (eFn g fs) := by
  refine pe_imp (pe_callTy hc hgl hm hv ha hn hdb he hpl) fun σ H Q q => ?_
  obtain ⟨G, al, m, d, m', r, e, k⟩ := q
  obtain ⟨hs, xs, e1, l1, gz⟩ := eFn_ok e
  refine ⟨G, al, m, hs, m', r, e1, fun G1 al1 v H1 ev1 r1 hv1 => ?_⟩
  exact hg G1 al1 m' σ H1 v xs d Q r1 (looks_cr r1 hv1 l1) gz fun G3 al3 w ob H3 ev3 r3 hp hn c => k G3 al3 w ob H3 (ev1.trans ev3) r3 hp hn c
end

/-! ### plain data, == -/
mutual
def toPy : D → Option PyData
  | .non => some .none
  | .bl b => some (.bool b)
  | .int i => some (.int i)
  | .str x => some (.str x)
  | .tup ds => (toPys ds).map .tuple
  | .lst ds => (toPys ds).map .list
  | .dic _ => none
  | .dit _ => none
  | .set _ => none
  | .obj _ => none
  | .scr _ => none
def toPys : List D → Option (List PyData)
  | [] => some []
  | d :: ds => match toPy d, toPys ds with
    | some p, some ps => some (p :: ps)
    | _, _ => none
end
section
variable {K : KX} {H Z : Hp} {al : List Addr}
theorem toPys_cons {d : D} {ds : List D} {ps : List PyData} (e : toPys (d :: ds) = some ps) : ∃ p ps', toPy d = some p ∧ toPys ds = some ps' ∧ ps = p :: ps' := by
  rw [toPys] at e
  split at e
  · next p ps' h1 h2 => cases e; exact ⟨p, ps', h1, h2, rfl⟩
  · cases e
mutual
theorem DV.dp (s : Same Z H) : ∀ {v : V} {d : D} {p : PyData}, DV K Z al v d → toPy d = some p → Dp K.K H v p
  | _, _, _, .non, e => by cases e; exact .non
  | _, _, _, .bl b, e => by cases e; exact .bl b
  | _, _, _, .int b, e => by cases e; exact .int b
  | _, _, _, .str b, e => by cases e; exact .str b
  | _, _, _, .tup (ds := ds) h r, e => by
    cases q : toPys ds with
    | none => rw [toPy, q] at e; cases e
    | some ps => rw [toPy, q] at e; cases e; exact .tup (Same.tupS s h) (DVs.dp s r q)
  | _, _, _, .lst (ds := ds) h r, e => by
    cases q : toPys ds with
    | none => rw [toPy, q] at e; cases e
    | some ps => rw [toPy, q] at e; cases e; exact .lst (.inl (.inl (s _ _ h))) (DVs.dp s r q)
  | _, _, _, .dicK _ _ _, e => by cases e
  | _, _, _, .ditN _ _ _ _ _ _, e => by cases e
  | _, _, _, .obj _, e => by cases e
  | _, _, _, .scr _, e => by cases e
theorem DVs.dp (s : Same Z H) : ∀ {v : List V} {d : List D} {p : List PyData}, DVs K Z al v d → toPys d = some p → DpAll K.K H v p
  | _, _, _, .nil, e => by cases e; exact .nil
  | _, _, _, .cons h r, e => by
    obtain ⟨p, ps, h1, h2, rfl⟩ := toPys_cons e
    exact .cons (DV.dp s h h1) (DVs.dp s r h2)
end
theorem CR.dp (s : Same Z H) {v : V} {d : D} {p : PyData} (h : CR K H Z al v d) (e : toPy d = some p) : Dp K.K H v p := by
  cases d with
  | lst ds =>
    obtain ⟨a, xs, rfl, ha, r⟩ := h
    cases q : toPys ds with
    | none => rw [toPy, q] at e; cases e
    | some ps => rw [toPy, q] at e; cases e; exact .lst (.inl (.inl ha)) (r.dp s q)
  | dic ds => cases e
  | dit ds => cases e
  | _ => exact DV.dp s h e
end
/-- data that may be compared by == -/
def okE (d : D) : Option PyData := match toPy d with
  | some p => if SeqAt.shaped p then some p else none
  | none => none
theorem okE_some {d : D} {p : PyData} (h : okE d = some p) : toPy d = some p ∧ SeqAt.shaped p = true := by
  unfold okE at h
  split at h
  · next q e =>
    split at h
    · next hs => cases h; exact ⟨e, hs⟩
    · cases h
  · cases h
def eqB (a b : D) : Option Bool := match okE a, okE b with
  | some p, some q => some (PyData.eqv p q)
  | _, _ => none
def gEq (a b : D) : Option D := (eqB a b).map .bl
def gNe (a b : D) : Option D := (eqB a b).map fun c => .bl (!c)
section
variable {cls : Nat → Addr} {own : Nat → Bool} {K : KX}
theorem ok_eqD : OpOk K cls own (rEqD K.K) gEq := by
  intro G al m σ H x y da db d Q r hx hy e k
  unfold gEq eqB at e
  split at e
  · next p q e1 e2 =>
    cases e
    obtain ⟨t1, s1⟩ := okE_some e1
    obtain ⟨t2, s2⟩ := okE_some e2
    exact ⟨p, q, hx.dp r.zh t1, hy.dp r.zh t2, s1, s2, k.keep r (.bl _)⟩
  · cases e
theorem ok_neD : OpOk K cls own (rNeD K.K) gNe := by
  intro G al m σ H x y da db d Q r hx hy e k
  unfold gNe eqB at e
  split at e
  · next p q e1 e2 =>
    cases e
    obtain ⟨t1, s1⟩ := okE_some e1
    obtain ⟨t2, s2⟩ := okE_some e2
    exact ⟨p, q, hx.dp r.zh t1, hy.dp r.zh t2, s1, s2, k.keep r (.bl _)⟩
  · cases e
end
end MI

namespace MI
open PySem PySem.Spec L2

def rOr (r1 r2 : R2) : R2 := fun x y H Q => r1 x y H Q ∨ r2 x y H Q
theorem opR_or {X : Cx} {f : Value → Value → Sem Value} {r1 r2 : R2} (h1 : OpR X f r1) (h2 : OpR X f r2) : OpR X f (rOr r1 r2) := by
  intro pins s σ H x y v u Q I rx ry h
  rcases h with h | h
  · exact h1 pins s σ H x y v u Q I rx ry h
  · exact h2 pins s σ H x y v u Q I rx ry h
def cOr (r1 r2 : List V → Hp → VK → Prop) : List V → Hp → VK → Prop := fun xs H Q => r1 xs H Q ∨ r2 xs H Q
theorem callR_or {X : Cx} {f : Value} {r1 r2 : List V → Hp → VK → Prop} (h1 : CallR X f r1) (h2 : CallR X f r2) : CallR X f (cOr r1 r2) := by
  intro pins s σ H xs us Q I rv h
  rcases h with h | h
  · exact h1 pins s σ H xs us Q I rv h
  · exact h2 pins s σ H xs us Q I rv h

section
variable {K : KX} {H Z : Hp} {al : List Addr} {v : V}
theorem CR.int {i : Int} (h : CR K H Z al v (.int i)) : v = .int i := by cases (show DV K Z al v (.int i) from h); rfl
theorem CR.str {i : Str} (h : CR K H Z al v (.str i)) : v = .str i := by cases (show DV K Z al v (.str i) from h); rfl
theorem CR.bl {i : Bool} (h : CR K H Z al v (.bl i)) : v = .bl i := by cases (show DV K Z al v (.bl i) from h); rfl
theorem CR.non (h : CR K H Z al v .non) : v = .non := by cases (show DV K Z al v .non from h); rfl
theorem CR.tup {ds : List D} (h : CR K H Z al v (.tup ds)) : ∃ a xs, v = .ref a ∧ SqT K.K Z a xs ∧ DVs K Z al xs ds := by
  cases (show DV K Z al v (.tup ds) from h) with
  | tup h1 r1 => exact ⟨_, _, rfl, h1, r1⟩
end
section
variable {K : KX} {cls : Nat → Addr} {own : Nat → Bool} {G : Gh} {al : List Addr} {m : MS} {σ : St} {H : Hp} {d : D} {Q : VK} {v : V} {p : Addr}
theorem Post.lst {xs : List V} {ds : List D} (k : Post K cls own G al m σ (.lst ds) Q) (r : Rst K cls own G al m σ H) (h : DVs K (Zof G) al xs ds) (hp : H p = none) : Q (.ref p) (upd H p (.lst xs)) := by
  have hn := r.hst.nog hp
  have ev : Ev G al (putG G p .frz (.lst xs)) al := ev_put hn
  exact k _ al _ _ ev ((r.fresh hp).tag hn upd_same) (.lst (zof_of putG_same) (h.ev ev))
end

/-! ### + - * // % ** -/
def fitL (n : Nat) : Bool := decide (n ≤ sizeLine)
theorem fitL_le {n : Nat} (h : fitL n = true) : n ≤ sizeLine := of_decide_eq_true h
def gAdd : D → D → Option D
  | .int i, .int j => some (.int (i + j))
  | .str x, .str y => if fitL (x.length + y.length) then some (.str (x ++ y)) else none
  | .tup xs, .tup ys => if fitL (xs.length + ys.length) then some (.tup (xs ++ ys)) else none
  | .lst xs, .lst ys => if fitL (xs.length + ys.length) then some (.lst (xs ++ ys)) else none
  | _, _ => none
def rAdd (K : PySem.W.Frag) : R2 := rOr (rI0 fun i j => .int (i + j)) (rOr (fun x y H Q => ∃ i j, x = .str i ∧ y = .str j ∧ i.length + j.length ≤ sizeLine ∧ Q (.str (i ++ j)) H) (rOr (rCatA K) rCat))
theorem op_addU {X : Cx} : OpR X (binaryOp .Add) (rAdd X.K) := opR_or op_add (opR_or op_add_str (opR_or op_catA op_cat))
section
variable {cls : Nat → Addr} {own : Nat → Bool} {K : KX}
theorem nil_iff {K : KX} {Z : Hp} {al : List Addr} {xs : List V} {ds : List D} (h : DVs K Z al xs ds) : xs = [] ↔ ds = [] := by
  cases h <;> simp
theorem ok_add : OpOk K cls own (rAdd K.K) gAdd := by
  intro G al m σ H x y da db d Q r hx hy e k
  unfold gAdd at e
  split at e
  · next i j => cases e; cases hx.int; cases hy.int; exact .inl ⟨i, j, rfl, rfl, k.keep r (.int _)⟩
  · next i j =>
    split at e
    · next hf => cases e; cases hx.str; cases hy.str; exact .inr (.inl ⟨i, j, rfl, rfl, fitL_le hf, k.keep r (.str _)⟩)
    · cases e
  · next xs ys =>
    split at e
    · next hf =>
      cases e
      obtain ⟨a, us, rfl, h1, r1⟩ := hx.tup
      obtain ⟨b, ws, rfl, h2, r2⟩ := hy.tup
      refine .inr (.inr (.inl ⟨a, b, us, ws, rfl, rfl, Same.tupS r.zh h1, Same.tupS r.zh h2, by rw [r1.length, r2.length]; exact fitL_le hf, fun e => ?_, fun _ e => ?_, fun _ _ p hp => ?_⟩))
      · have := (nil_iff r1).mp e
        subst this
        exact k.keep r (.tup h2 r2)
      · have := (nil_iff r2).mp e
        subst this
        rw [List.append_nil] at k
        exact k.keep r (.tup h1 r1)
      · exact k.tup r (r1.append r2) hp
    · cases e
  · next xs ys =>
    split at e
    · next hf =>
      cases e
      obtain ⟨a, us, rfl, h1, r1⟩ := hx
      obtain ⟨b, ws, rfl, h2, r2⟩ := hy
      exact .inr (.inr (.inr ⟨a, b, us, ws, rfl, rfl, h1, h2, by rw [r1.length, r2.length]; exact fitL_le hf, fun p hp => k.lst r (r1.append r2) hp⟩))
    · cases e
  · cases e
def gSub : D → D → Option D
  | .int i, .int j => some (.int (i - j))
  | _, _ => none
theorem ok_sub : OpOk K cls own (rI0 fun i j => .int (i - j)) gSub := by
  intro G al m σ H x y da db d Q r hx hy e k
  unfold gSub at e
  split at e
  · next i j => cases e; cases hx.int; cases hy.int; exact ⟨i, j, rfl, rfl, k.keep r (.int _)⟩
  · cases e
def gMul : D → D → Option D
  | .int i, .int j => if i.natAbs.log2 + j.natAbs.log2 < 1000000 then some (.int (i * j)) else none
  | .lst xs, .int k => if k < 1000 ∧ -1000 < k ∧ xs.length * k.toNat ≤ sizeLine then some (.lst (List.replicate k.toNat xs).flatten) else none
  | _, _ => none
def rMul : R2 := rOr (rI CMulW fun i j => .int (i * j)) rRep
theorem op_mulU {X : Cx} : OpR X (binaryOp .Mult) rMul := opR_or op_mulW op_rep
theorem DVs.rep {K : KX} {Z : Hp} {al : List Addr} {xs : List V} {ds : List D} (h : DVs K Z al xs ds) : ∀ n : Nat, DVs K Z al (List.replicate n xs).flatten (List.replicate n ds).flatten
  | 0 => .nil
  | n + 1 => by
    rw [List.replicate_succ, List.replicate_succ, List.flatten_cons, List.flatten_cons]
    exact h.append (DVs.rep h n)
theorem ok_mul : OpOk K cls own rMul gMul := by
  intro G al m σ H x y da db d Q r hx hy e k
  unfold gMul at e
  split at e
  · next i j =>
    split at e
    · next hf => cases e; cases hx.int; cases hy.int; exact .inl ⟨i, j, rfl, rfl, hf, k.keep r (.int _)⟩
    · cases e
  · next xs n =>
    split at e
    · next hf =>
      cases e
      obtain ⟨a, us, rfl, h1, r1⟩ := hx
      cases hy.int
      obtain ⟨f1, f2, f3⟩ := hf
      exact .inr ⟨a, n, us, rfl, rfl, h1, by omega, by omega, by rw [r1.length]; exact f3, fun p hp => k.lst r (r1.rep _) hp⟩
    · cases e
  · cases e
def gDiv : D → D → Option D
  | .int i, .int j => if 0 < j ∧ j.natAbs.log2 < 9000 then some (.int (i / j)) else none
  | _, _ => none
theorem ok_div : OpOk K cls own (rI CDivW fun i j => .int (i / j)) gDiv := by
  intro G al m σ H x y da db d Q r hx hy e k
  unfold gDiv at e
  split at e
  · next i j =>
    split at e
    · next hf => cases e; cases hx.int; cases hy.int; exact ⟨i, j, rfl, rfl, hf, k.keep r (.int _)⟩
    · cases e
  · cases e
def gMod : D → D → Option D
  | .int i, .int j => if 0 < j then some (.int (i % j)) else none
  | _, _ => none
theorem ok_mod : OpOk K cls own (rI (fun _ j => j ≠ 0) fun i j => .int (i.fmod j)) gMod := by
  intro G al m σ H x y da db d Q r hx hy e k
  unfold gMod at e
  split at e
  · next i j =>
    split at e
    · next hf =>
      cases e; cases hx.int; cases hy.int
      refine ⟨i, j, rfl, rfl, by omega, ?_⟩
      show Q (V.int (i.fmod j)) H
      rw [Int.fmod_eq_emod_of_nonneg _ (show 0 ≤ j by omega)]
      exact k.keep r (.int _)
    · cases e
  · cases e
def gPow : D → D → Option D
  | .int i, .int j => if 0 ≤ j ∧ j ≤ 1000000 ∧ i.natAbs < 2 ^ 64 then some (.int (i ^ j.toNat)) else none
  | _, _ => none
theorem ok_pow : OpOk K cls own (rI CPow fun i j => .int (i ^ j.toNat)) gPow := by
  intro G al m σ H x y da db d Q r hx hy e k
  unfold gPow at e
  split at e
  · next i j =>
    split at e
    · next hf => cases e; cases hx.int; cases hy.int; exact ⟨i, j, rfl, rfl, hf, k.keep r (.int _)⟩
    · cases e
  · cases e
def gNeg : D → Option D
  | .int i => some (.int (-i))
  | _ => none
theorem ok_neg : UnOk K cls own (rU fun i => .int (-i)) gNeg := by
  intro G al m σ H x da d Q r hx e k
  unfold gNeg at e
  split at e
  · next i => cases e; cases hx.int; exact ⟨i, rfl, k.keep r (.int _)⟩
  · cases e

/-! ### order -/
def gLt : D → D → Option D
  | .int i, .int j => some (.bl (decide (i < j)))
  | .str x, .str y => some (.bl (decide (x.cps.toList < y.cps.toList)))
  | _, _ => none
def rLt : R2 := rOr (rI0 fun i j => .bl (decide (i < j))) (fun x y H Q => ∃ i j, x = .str i ∧ y = .str j ∧ Q (.bl (decide (i.cps.toList < j.cps.toList))) H)
theorem op_ltU {X : Cx} : OpR X (compareOp .Lt) rLt := opR_or op_lt op_lt_str
theorem ok_lt : OpOk K cls own rLt gLt := by
  intro G al m σ H x y da db d Q r hx hy e k
  unfold gLt at e
  split at e
  · next i j => cases e; cases hx.int; cases hy.int; exact .inl ⟨i, j, rfl, rfl, k.keep r (.bl _)⟩
  · next i j => cases e; cases hx.str; cases hy.str; exact .inr ⟨i, j, rfl, rfl, k.keep r (.bl _)⟩
  · cases e
def gI (c : Int → Int → Bool) : D → D → Option D
  | .int i, .int j => some (.bl (c i j))
  | _, _ => none
theorem ok_I {c : Int → Int → Bool} : OpOk K cls own (rI0 fun i j => .bl (c i j)) (gI c) := by
  intro G al m σ H x y da db d Q r hx hy e k
  unfold gI at e
  split at e
  · next i j => cases e; cases hx.int; cases hy.int; exact ⟨i, j, rfl, rfl, k.keep r (.bl _)⟩
  · cases e
abbrev gLe : D → D → Option D := gI fun i j => decide (i ≤ j)
abbrev gGt : D → D → Option D := gI fun i j => decide (j < i)
abbrev gGe : D → D → Option D := gI fun i j => decide (j ≤ i)
/-! ### is None -/
def gIsN : D → D → Option D
  | .non, .non => some (.bl true)
  | .int _, .non => some (.bl false)
  | .bl _, .non => some (.bl false)
  | .str _, .non => some (.bl false)
  | .tup _, .non => some (.bl false)
  | .lst _, .non => some (.bl false)
  | _, _ => none
def gNotN (a b : D) : Option D := match gIsN a b with
  | some (.bl c) => some (.bl (!c))
  | _ => none
end
end MI

namespace MI
open PySem PySem.Spec L2

/-! ### keys -/
def kEq : D → D → Bool
  | .int i, .int j => decide (i = j)
  | .str x, .str y => decide (x = y)
  | _, _ => false
def isKey : D → Bool
  | .int _ => true
  | .str _ => true
  | _ => false
def dget : List (D × D) → D → Option D
  | [], _ => none
  | (k, v) :: r, x => if kEq k x then some v else dget r x
theorem kEq_kD (a b : Key) : kEq (kD a) (kD b) = decide (a = b) := by
  cases a with
  | inl i => cases b with
    | inl j => simp [kEq, kD]
    | inr y => simp [kEq, kD]
  | inr x => cases b with
    | inl j => simp [kEq, kD]
    | inr y => simp [kEq, kD]
theorem isKey_kD {d : D} (h : isKey d = true) : ∃ k, d = kD k := by
  cases d with
  | int i => exact ⟨.inl i, rfl⟩
  | str i => exact ⟨.inr i, rfl⟩
  | _ => cases h
theorem CR.key {K : KX} {H Z : Hp} {al : List Addr} {v : V} {k : Key} (h : CR K H Z al v (kD k)) : v = kV k := by
  cases k with
  | inl i => exact CR.int h
  | inr x => exact CR.str h
theorem dget_K {K : KX} {Z : Hp} {al : List Addr} (k : Key) : ∀ {kvs : List (Key × V)} {ds : List (D × D)}, ds.map Prod.fst = kvs.map (fun q => kD q.1) → DVs K Z al (kvs.map Prod.snd) (ds.map Prod.snd) →
    (∀ d, dget ds (kD k) = some d → ∃ v, valV kvs k = some v ∧ DV K Z al v d) ∧ (dget ds (kD k) = none → valV kvs k = none)
  | [], [], _, _ => ⟨fun d h => (nomatch (show (none : Option D) = some d from h)), fun _ => rfl⟩
  | [], _ :: _, e, _ => by cases e
  | _ :: _, [], e, _ => by cases e
  | (a, v) :: kvs, (x, d) :: ds, e, r => by
    have e' : x :: ds.map Prod.fst = kD a :: kvs.map (fun q => kD q.1) := e
    injection e' with e1 e2
    subst e1
    cases r with
    | cons r1 r2 =>
      obtain ⟨i1, i2⟩ := dget_K k e2 r2
      unfold dget
      rw [kEq_kD]
      by_cases h : a = k
      · subst h
        simp only [decide_true, if_true]
        exact ⟨fun d' q => by cases q; exact ⟨v, valV_pos rfl, r1⟩, fun q => by cases q⟩
      · simp only [decide_eq_false h, Bool.false_eq_true, if_false]
        rw [valV_neg h]
        exact ⟨i1, i2⟩

/-! ### in -/
def gIn : D → D → Option Bool
  | x, .lst ds => match okE x, okE (.lst ds) with
    | some p, some (.list ps) => some (ps.any fun z => PyData.eqv z p)
    | _, _ => none
  | x, .tup ds => match okE x, okE (.tup ds) with
    | some p, some (.tuple ps) => some (ps.any fun z => PyData.eqv z p)
    | _, _ => none
  | x, .dic ds => if isKey x then some (dget ds x).isSome else none
  | .str i, .str j => some (!(Builtin.Str.occurrences j i 0 j.length 1).isEmpty)
  | _, _ => none
def gInD (a b : D) : Option D := (gIn a b).map .bl
def gNotInD (a b : D) : Option D := (gIn a b).map fun c => .bl (!c)
def rInAll (K : PySem.W.Frag) (neg : Bool) : R2 := fun x y H Q => ∃ b : Bool, ((∃ d ds, Dp K H x d ∧ Dp K H y (.list ds) ∧ SeqAt.shaped d = true ∧ SeqAt.shaped (.list ds) = true ∧ b = ds.any fun z => PyData.eqv z d) ∨
    (∃ d ds, Dp K H x d ∧ Dp K H y (.tuple ds) ∧ SeqAt.shaped d = true ∧ SeqAt.shaped (.tuple ds) = true ∧ b = ds.any fun z => PyData.eqv z d) ∨
    (∃ a o, y = .ref a ∧ DGet H a x o ∧ b = o.isSome) ∨ (∃ i j, x = .str i ∧ y = .str j ∧ b = !(Builtin.Str.occurrences j i 0 j.length 1).isEmpty)) ∧ Q (.bl (if neg then !b else b)) H
section
variable {X : Cx}
theorem op_inU (hu : X.A.units + 65 < cLine) : OpR X (compareOp .In) (rInAll X.K false) := by
  intro pins s σ H x y v u Q I rx ry h
  obtain ⟨b, h, q⟩ := h
  rcases h with ⟨d, ds, hd, he, sd, se, rfl⟩ | ⟨d, ds, hd, he, sd, se, rfl⟩ | ⟨a, o, rfl, g, rfl⟩ | ⟨i, j, rfl, rfl, rfl⟩
  · exact op_inD hu pins s σ H x y v u Q I rx ry ⟨d, ds, hd, he, sd, se, q⟩
  · obtain ⟨as, r1⟩ := Dp.reads I d x v hd rx
    obtain ⟨bs, r2⟩ := Dp.reads I (.tuple ds) y u he ry
    exact SeqAt.in_tuple_reads r2 r1 (SeqAt.canLay_of_shaped se) (SeqAt.canLay_of_shaped sd) (PyProof.Rows.room_in_shaped sd hu) ⟨.bl _, H, I, rfl, q⟩
  · cases ry
    exact d_in (by omega) I g rx fun s' I' => ⟨.bl _, H, I', rfl, q⟩
  · exact op_in_str pins s σ H _ _ v u Q I rx ry ⟨i, j, rfl, rfl, q⟩
theorem op_notInU (hu : X.A.units + 65 < cLine) : OpR X (compareOp .NotIn) (rInAll X.K true) := by
  intro pins s σ H x y v u Q I rx ry h
  obtain ⟨b, h, q⟩ := h
  rcases h with ⟨d, ds, hd, he, sd, se, rfl⟩ | ⟨d, ds, hd, he, sd, se, rfl⟩ | ⟨a, o, rfl, g, rfl⟩ | ⟨i, j, rfl, rfl, rfl⟩
  · exact op_notInD hu pins s σ H x y v u Q I rx ry ⟨d, ds, hd, he, sd, se, q⟩
  · obtain ⟨as, r1⟩ := Dp.reads I d x v hd rx
    obtain ⟨bs, r2⟩ := Dp.reads I (.tuple ds) y u he ry
    exact SeqAt.notIn_tuple_reads r2 r1 (SeqAt.canLay_of_shaped se) (SeqAt.canLay_of_shaped sd) (PyProof.Rows.room_in_shaped sd hu) ⟨.bl _, H, I, rfl, q⟩
  · cases ry
    exact d_notIn (by omega) I g rx fun s' I' => ⟨.bl _, H, I', rfl, q⟩
  · exact op_notin_str pins s σ H _ _ v u Q I rx ry ⟨i, j, rfl, rfl, q⟩
end
section
variable {cls : Nat → Addr} {own : Nat → Bool} {K : KX}
theorem toPy_lst {ds : List D} {p : PyData} (h : toPy (.lst ds) = some p) : ∃ ps, toPys ds = some ps ∧ p = .list ps := by
  rw [toPy] at h
  cases q : toPys ds with
  | none => rw [q] at h; cases h
  | some ps => rw [q] at h; cases h; exact ⟨ps, rfl, rfl⟩
theorem toPy_tup {ds : List D} {p : PyData} (h : toPy (.tup ds) = some p) : ∃ ps, toPys ds = some ps ∧ p = .tuple ps := by
  rw [toPy] at h
  cases q : toPys ds with
  | none => rw [q] at h; cases h
  | some ps => rw [q] at h; cases h; exact ⟨ps, rfl, rfl⟩
theorem in_core {G : Gh} {al : List Addr} {m : MS} {σ : St} {H : Hp} {x y : V} {da db : D} {b : Bool} (r : Rst K cls own G al m σ H) (hx : CR K H (Zof G) al x da) (hy : CR K H (Zof G) al y db) (e : gIn da db = some b) :
    (∃ d ds, Dp K.K H x d ∧ Dp K.K H y (.list ds) ∧ SeqAt.shaped d = true ∧ SeqAt.shaped (.list ds) = true ∧ b = ds.any fun z => PyData.eqv z d) ∨
    (∃ d ds, Dp K.K H x d ∧ Dp K.K H y (.tuple ds) ∧ SeqAt.shaped d = true ∧ SeqAt.shaped (.tuple ds) = true ∧ b = ds.any fun z => PyData.eqv z d) ∨
    (∃ a o, y = .ref a ∧ DGet H a x o ∧ b = o.isSome) ∨ (∃ i j, x = .str i ∧ y = .str j ∧ b = !(Builtin.Str.occurrences j i 0 j.length 1).isEmpty) := by
  unfold gIn at e
  split at e
  · next ds =>
    split at e
    · next p ps e1 e2 =>
      cases e
      obtain ⟨t1, s1⟩ := okE_some e1
      obtain ⟨t2, s2⟩ := okE_some e2
      exact .inl ⟨p, ps, hx.dp r.zh t1, hy.dp r.zh t2, s1, s2, rfl⟩
    · cases e
  · next ds =>
    split at e
    · next p ps e1 e2 =>
      cases e
      obtain ⟨t1, s1⟩ := okE_some e1
      obtain ⟨t2, s2⟩ := okE_some e2
      exact .inr (.inl ⟨p, ps, hx.dp r.zh t1, hy.dp r.zh t2, s1, s2, rfl⟩)
    · cases e
  · next ds =>
    split at e
    · next hk =>
      cases e
      obtain ⟨k, rfl⟩ := isKey_kD hk
      cases hx.key
      obtain ⟨a, kvs, rfl, hr, e1, e2⟩ := hy
      refine .inr (.inr (.inl ⟨a, valV kvs k, rfl, .inl ⟨kvs, k, hr, rfl, rfl⟩, ?_⟩))
      obtain ⟨i1, i2⟩ := dget_K k e1 e2
      cases q : dget ds (kD k) with
      | none => rw [i2 q]; rfl
      | some d => obtain ⟨v, h1, _⟩ := i1 d q; rw [h1]; rfl
    · cases e
  · next i j => cases e; cases hx.str; cases hy.str; exact .inr (.inr (.inr ⟨i, j, rfl, rfl, rfl⟩))
  · cases e
theorem ok_in : OpOk K cls own (rInAll K.K false) gInD := by
  intro G al m σ H x y da db d Q r hx hy e k
  unfold gInD at e
  cases q : gIn da db with
  | none => rw [q] at e; cases e
  | some b => rw [q] at e; cases e; exact ⟨b, in_core r hx hy q, k.keep r (.bl _)⟩
theorem ok_notIn : OpOk K cls own (rInAll K.K true) gNotInD := by
  intro G al m σ H x y da db d Q r hx hy e k
  unfold gNotInD at e
  cases q : gIn da db with
  | none => rw [q] at e; cases e
  | some b => rw [q] at e; cases e; exact ⟨b, in_core r hx hy q, k.keep r (.bl _)⟩
/-! ### is None -/
theorem DV.isN {Z : Hp} {al : List Addr} {v : V} {d : D} {b : Bool} (h : DV K Z al v d) (e : gIsN d .non = some (.bl b)) : decide (v = .non) = b := by
  cases h <;> first
    | (have e' : (some (D.bl true)) = some (.bl b) := e; cases e'; rfl)
    | (have e' : (some (D.bl false)) = some (.bl b) := e; cases e'; rfl)
    | (exact nomatch (show (none : Option D) = some (.bl b) from e))
theorem gIsN_bl {a b : D} {d : D} (e : gIsN a b = some d) : b = .non ∧ ∃ c, d = .bl c := by
  unfold gIsN at e
  split at e <;> first
    | (cases e; exact ⟨rfl, _, rfl⟩)
    | cases e
theorem CR.isN {H Z : Hp} {al : List Addr} {v : V} {d : D} {b : Bool} (h : CR K H Z al v d) (e : gIsN d .non = some (.bl b)) : decide (v = .non) = b := by
  cases d with
  | lst ds => obtain ⟨a, xs, rfl, _⟩ := h; have e' : (some (D.bl false)) = some (.bl b) := e; cases e'; rfl
  | dic ds => exact nomatch (show (none : Option D) = some (.bl b) from e)
  | dit ds => exact nomatch (show (none : Option D) = some (.bl b) from e)
  | _ => exact DV.isN h e
theorem ok_isN : OpOk K cls own (fun x y H Q => y = .non ∧ Q (.bl (decide (x = .non))) H) gIsN := by
  intro G al m σ H x y da db d Q r hx hy e k
  obtain ⟨rfl, c, rfl⟩ := gIsN_bl e
  cases hy.non
  refine ⟨rfl, ?_⟩
  rw [hx.isN e]
  exact k.keep r (.bl _)
theorem ok_notN : OpOk K cls own (fun x y H Q => y = .non ∧ Q (.bl (!decide (x = .non))) H) gNotN := by
  intro G al m σ H x y da db d Q r hx hy e k
  unfold gNotN at e
  split at e
  · next c q =>
    cases e
    obtain ⟨rfl, c', e2⟩ := gIsN_bl q
    cases e2
    cases hy.non
    refine ⟨rfl, ?_⟩
    rw [hx.isN q]
    exact k.keep r (.bl _)
  · cases e

/-! ### subscripts -/
def gIx : D → D → Option D
  | .lst ds, .int i => atI ds i
  | .tup ds, .int i => atI ds i
  | .scr ns, .int i => (atI ns i).map .int
  | .str z, .int i => if fitL z.length then (atI z.cps.toList i).map fun c => .str ⟨#[c]⟩ else none
  | .dic ds, k => if isKey k then dget ds k else none
  | _, _ => none
theorem atI_DVs {Z : Hp} {al : List Addr} {xs : List V} {ds : List D} {i : Int} {d : D} (h : DVs K Z al xs ds) (e : atI ds i = some d) : ∃ v, atI xs i = some v ∧ DV K Z al v d := by
  unfold atI at e ⊢
  rw [h.length]
  cases q : ixN ds.length i with
  | none => rw [q] at e; cases e
  | some j => rw [q] at e; exact h.get e
theorem atI_map {ns : List Int} {i j : Int} (e : atI ns i = some j) : atI (ns.map V.int) i = some (.int j) := by
  unfold atI at e ⊢
  rw [List.length_map]
  cases q : ixN ns.length i with
  | none => rw [q] at e; cases e
  | some j => rw [q] at e; simp only [Option.bind_some] at e ⊢; rw [List.getElem?_map, e]; rfl
def rIxAll (K : PySem.W.Frag) : R2 := fun x y H Q => rIxL K x y H Q ∨ rIxT K x y H Q ∨ rIxS x y H Q ∨ ∃ a v, x = .ref a ∧ DGet H a y (some v) ∧ Q v H
theorem ix_dict {X : Cx} (hu : X.A.units + 65 < cLine) : IxR X (fun x y H Q => ∃ a v, x = .ref a ∧ DGet H a y (some v) ∧ Q v H) := by
  intro value slice pins s σ H x y v u Q I rx ry h hs
  obtain ⟨a, z, rfl, g, q⟩ := h
  cases rx
  exact PyProof.Rows.tail_any (dict_typeIs I g) PySem.F.slot_dict_getitem.lookup (d_getItem (by omega) I g ry fun w' s' I' r' => ⟨z, H, I', r', q⟩) hs
theorem ix_all {X : Cx} (hu : X.A.units + 65 < cLine) : IxR X (rIxAll X.K) := IxR.or ix_list (IxR.or ix_tup (IxR.or ix_str (ix_dict hu)))
theorem ok_ix : OpOk K cls own (rIxAll K.K) gIx := by
  intro G al m σ H x y da db d Q r hx hy e k
  unfold gIx at e
  split at e
  · next ds i =>
    cases hy.int
    obtain ⟨a, xs, rfl, h1, r1⟩ := hx
    obtain ⟨v, e1, e2⟩ := atI_DVs r1 e
    exact .inl ⟨a, xs, i, v, rfl, rfl, .inl (.inl h1), e1, k.keep r e2⟩
  · next ds i =>
    cases hy.int
    obtain ⟨a, xs, rfl, h1, r1⟩ := hx.tup
    obtain ⟨v, e1, e2⟩ := atI_DVs r1 e
    exact .inr (.inl ⟨a, xs, i, v, rfl, rfl, Same.tupS r.zh h1, e1, k.keep r e2⟩)
  · next ns i =>
    cases hy.int
    cases (show DV K (Zof G) al x (.scr ns) from hx) with
    | scr h =>
      cases q : atI ns i with
      | none => rw [q] at e; cases e
      | some j => rw [q] at e; cases e; exact .inl ⟨_, _, i, _, rfl, rfl, L2.Same.seq r.zh h, atI_map q, k.keep r (.int _)⟩
  · next z i =>
    split at e
    · next hf =>
      cases hy.int
      cases hx.str
      cases q : atI z.cps.toList i with
      | none => rw [q] at e; cases e
      | some j => rw [q] at e; cases e; exact .inr (.inr (.inl ⟨z, i, j, rfl, rfl, fitL_le hf, q, k.keep r (.str _)⟩))
    · cases e
  · next ds _ =>
    split at e
    · next hk =>
      obtain ⟨k0, rfl⟩ := isKey_kD hk
      cases hy.key
      obtain ⟨a, kvs, rfl, hr, e1, e2⟩ := hx
      obtain ⟨v, h1, h2⟩ := (dget_K k0 e1 e2).1 d e
      exact .inr (.inr (.inr ⟨a, v, rfl, .inl ⟨kvs, k0, hr, rfl, h1.symm⟩, k.keep r h2⟩))
    · cases e
  · cases e
end
section
variable {cls : Nat → Addr} {own : Nat → Bool} {X : Cx} {a b : Expr} {fa fb : Den Hd} {pos : Pos}
theorem se_ix (hu : X.A.units + 65 < cLine) (ha : SH cls own X a fa) (hb : SH cls own X b fb) (hs : PlainIx b) : SE cls own X (.Subscript a b pos) (eOp gIx fa fb) := by
  refine pe_imp (pe_ix (ix_all hu) ha hb hs) fun σ H Q q => ?_
  obtain ⟨G, al, m, d, m', r, e, k⟩ := q
  obtain ⟨h1, m1, h2, x, y, e1, e2, l1, l2, gz⟩ := eOp_ok e
  refine ⟨G, al, m, h1, m1, r, e1, fun G1 al1 v H1 ev1 r1 hv1 => ⟨G1, al1, m1, h2, m', r1, e2, fun G2 al2 u H2 ev2 r2 hv2 => ?_⟩⟩
  exact ok_ix G2 al2 m' σ H2 v u x y d Q r2 (look_cr r2 (hv1.ev ev2) l1) (look_cr r2 hv2 l2) gz fun G3 al3 w H3 ev3 r3 dv => k G3 al3 w H3 ((ev1.trans ev2).trans ev3) r3 dv
end
end MI

namespace MI
open PySem PySem.Spec L2

section
variable {K : KX} {H Z : Hp} {al : List Addr}
def ints? : List D → Option (List Int)
  | [] => some []
  | .int i :: r => (ints? r).map (i :: ·)
  | _ => none
def bls? : List D → Option (List Bool)
  | [] => some []
  | .bl i :: r => (bls? r).map (i :: ·)
  | _ => none
theorem DVs.ints : ∀ {xs : List V} {ds : List D} {ns : List Int}, DVs K Z al xs ds → ints? ds = some ns → xs = ns.map V.int
  | _, _, ns, .nil, e => by cases (show some [] = some ns from e); rfl
  | _, _, ns, .cons (d := d) (ds := ds) h r, e => by
    cases d with
    | int i =>
      rw [ints?] at e
      cases q : ints? ds with
      | none => rw [q] at e; cases e
      | some ms => rw [q] at e; cases e; cases h; rw [DVs.ints r q]; rfl
    | _ => cases e
theorem DVs.bls : ∀ {xs : List V} {ds : List D} {ns : List Bool}, DVs K Z al xs ds → bls? ds = some ns → xs = ns.map V.bl
  | _, _, ns, .nil, e => by cases (show some [] = some ns from e); rfl
  | _, _, ns, .cons (d := d) (ds := ds) h r, e => by
    cases d with
    | bl i =>
      rw [bls?] at e
      cases q : bls? ds with
      | none => rw [q] at e; cases e
      | some ms => rw [q] at e; cases e; cases h; rw [DVs.bls r q]; rfl
    | _ => cases e
theorem CRs.one {xs : List V} {d : D} (h : CRs K H Z al xs [d]) : ∃ x, xs = [x] ∧ CR K H Z al x d := by
  cases h with
  | cons h1 h2 => cases h2; exact ⟨_, rfl, h1⟩
theorem CRs.two {xs : List V} {d e : D} (h : CRs K H Z al xs [d, e]) : ∃ x y, xs = [x, y] ∧ CR K H Z al x d ∧ CR K H Z al y e := by
  cases h with
  | cons h1 h2 =>
    obtain ⟨y, rfl, h3⟩ := h2.one
    exact ⟨_, y, rfl, h1, h3⟩
end

/-! ### built-ins -/
section
variable {cls : Nat → Addr} {own : Nat → Bool} {K : KX}
def gLen : List D → Option D
  | [.lst ds] => some (.int ds.length)
  | [.tup ds] => some (.int ds.length)
  | [.scr ns] => some (.int ns.length)
  | [.str z] => if fitL z.length then some (.int z.length) else none
  | _ => none
def rLenU (K : PySem.W.Frag) : List V → Hp → VK → Prop := cOr (fun xs H Q => ∃ p ys, xs = [.ref p] ∧ (SqL K H p ys ∨ SqT K H p ys) ∧ Q (.int ys.length) H) (fun xs H Q => ∃ z, xs = [.str z] ∧ z.length ≤ sizeLine ∧ Q (.int z.length) H)
theorem cr_lenU {X : Cx} : CallR X (.builtin "len") (rLenU X.K) := callR_or call_len_seq call_len_str
theorem ok_len : FnOkD K cls own (rLenU K.K) gLen := by
  intro G al m σ H xs da d Q r hx e k
  unfold gLen at e
  split at e
  · next ds =>
    cases e
    obtain ⟨x, rfl, a, us, rfl, h1, r1⟩ := hx.one
    exact .inl ⟨a, us, rfl, .inl (.inl (.inl h1)), by rw [r1.length]; exact k.keep r (.int _)⟩
  · next ds =>
    cases e
    obtain ⟨x, rfl, hc⟩ := hx.one
    obtain ⟨a, us, rfl, h1, r1⟩ := hc.tup
    exact .inl ⟨a, us, rfl, .inr (Same.tupS r.zh h1), by rw [r1.length]; exact k.keep r (.int _)⟩
  · next ns =>
    cases e
    obtain ⟨x, rfl, hc⟩ := hx.one
    cases (show DV K (Zof G) al x (.scr ns) from hc) with
    | scr h => exact .inl ⟨_, _, rfl, .inl (L2.Same.seq r.zh h), by rw [List.length_map]; exact k.keep r (.int _)⟩
  · next z =>
    split at e
    · next hf =>
      cases e
      obtain ⟨x, rfl, hc⟩ := hx.one
      cases hc.str
      exact .inr ⟨z, rfl, fitL_le hf, k.keep r (.int _)⟩
    · cases e
  · cases e
def gTuple : List D → Option D
  | [.lst ds] => some (.tup ds)
  | [.tup ds] => some (.tup ds)
  | _ => none
theorem ok_tuple : FnOkD K cls own (fun xs H Q => ∃ p ys, xs = [.ref p] ∧ ((SqL K.K H p ys ∧ ∀ l, H l = none → Q (.ref l) (upd H l (.tup ys))) ∨ (SqT K.K H p ys ∧ Q (.ref p) H))) gTuple := by
  intro G al m σ H xs da d Q r hx e k
  unfold gTuple at e
  split at e
  · next ds =>
    cases e
    obtain ⟨x, rfl, a, us, rfl, h1, r1⟩ := hx.one
    exact ⟨a, us, rfl, .inl ⟨.inl (.inl h1), fun p hp => k.tup r r1 hp⟩⟩
  · next ds =>
    cases e
    obtain ⟨x, rfl, hc⟩ := hx.one
    obtain ⟨a, us, rfl, h1, r1⟩ := hc.tup
    exact ⟨a, us, rfl, .inr ⟨Same.tupS r.zh h1, k.keep r (.tup h1 r1)⟩⟩
  · cases e
def gList : List D → Option D
  | [.lst ds] => some (.lst ds)
  | [.tup ds] => some (.lst ds)
  | _ => none
theorem ok_list : FnOkF K cls own (fun xs H Q => ∃ p ys, xs = [.ref p] ∧ (SqL K.K H p ys ∨ SqT K.K H p ys) ∧ ∀ l, H l = none → Q (.ref l) (upd H l (.lst ys))) gList := by
  intro G al m σ H xs da d Q r hx e k
  unfold gList at e
  split at e
  · next ds =>
    cases e
    obtain ⟨x, rfl, a, us, rfl, h1, r1⟩ := hx.one
    exact ⟨a, us, rfl, .inl (.inl (.inl h1)), fun p hp => k.lst r r1 hp⟩
  · next ds =>
    cases e
    obtain ⟨x, rfl, hc⟩ := hx.one
    obtain ⟨a, us, rfl, h1, r1⟩ := hc.tup
    exact ⟨a, us, rfl, .inr (Same.tupS r.zh h1), fun p hp => k.lst r r1 hp⟩
  · cases e
def gAbs : List D → Option D
  | [.int i] => some (.int (if i < 0 then -i else i))
  | _ => none
theorem ok_abs : FnOkD K cls own (fun xs H Q => ∃ i, xs = [.int i] ∧ Q (.int (if i < 0 then -i else i)) H) gAbs := by
  intro G al m σ H xs da d Q r hx e k
  unfold gAbs at e
  split at e
  · next i => cases e; obtain ⟨x, rfl, hc⟩ := hx.one; cases hc.int; exact ⟨i, rfl, k.keep r (.int _)⟩
  · cases e
def gMax2 : List D → Option D
  | [.int i, .int j] => some (.int (if j > i then j else i))
  | _ => none
def gMin2 : List D → Option D
  | [.int i, .int j] => some (.int (if j < i then j else i))
  | _ => none
theorem ok_max2 : FnOkD K cls own (fun xs H Q => ∃ i j, xs = [.int i, .int j] ∧ Q (.int (if j > i then j else i)) H) gMax2 := by
  intro G al m σ H xs da d Q r hx e k
  unfold gMax2 at e
  split at e
  · next i j => cases e; obtain ⟨x, y, rfl, hc, hd⟩ := hx.two; cases hc.int; cases hd.int; exact ⟨i, j, rfl, k.keep r (.int _)⟩
  · cases e
theorem ok_min2 : FnOkD K cls own (fun xs H Q => ∃ i j, xs = [.int i, .int j] ∧ Q (.int (if j < i then j else i)) H) gMin2 := by
  intro G al m σ H xs da d Q r hx e k
  unfold gMin2 at e
  split at e
  · next i j => cases e; obtain ⟨x, y, rfl, hc, hd⟩ := hx.two; cases hc.int; cases hd.int; exact ⟨i, j, rfl, k.keep r (.int _)⟩
  · cases e
def gInt : List D → Option D
  | [.int i] => some (.int i)
  | [.bl b] => some (.int (if b then 1 else 0))
  | _ => none
theorem ok_int : FnOkD K cls own (fun xs H Q => (∃ i, xs = [.int i] ∧ Q (.int i) H) ∨ ∃ k, xs = [.bl k] ∧ Q (.int (if k then 1 else 0)) H) gInt := by
  intro G al m σ H xs da d Q r hx e k
  unfold gInt at e
  split at e
  · next i => cases e; obtain ⟨x, rfl, hc⟩ := hx.one; cases hc.int; exact .inl ⟨i, rfl, k.keep r (.int _)⟩
  · next i => cases e; obtain ⟨x, rfl, hc⟩ := hx.one; cases hc.bl; exact .inr ⟨i, rfl, k.keep r (.int _)⟩
  · cases e
def gSum : List D → Option D
  | [.lst ds] => (ints? ds).map fun ns => .int ns.sum
  | _ => none
theorem ok_sum : FnOkD K cls own (rSum K.K) gSum := by
  intro G al m σ H xs da d Q r hx e k
  unfold gSum at e
  split at e
  · next ds =>
    cases q : ints? ds with
    | none => rw [q] at e; cases e
    | some ns =>
      rw [q] at e; cases e
      obtain ⟨x, rfl, a, us, rfl, h1, r1⟩ := hx.one
      cases r1.ints q
      exact ⟨a, ns, rfl, .inl (.inl h1), k.keep r (.int _)⟩
  · cases e
def gAll : List D → Option D
  | [.lst ds] => (bls? ds).map fun ns => .bl (ns.all id)
  | _ => none
theorem ok_all : FnOkD K cls own (rAll K.K) gAll := by
  intro G al m σ H xs da d Q r hx e k
  unfold gAll at e
  split at e
  · next ds =>
    cases q : bls? ds with
    | none => rw [q] at e; cases e
    | some ns =>
      rw [q] at e; cases e
      obtain ⟨x, rfl, a, us, rfl, h1, r1⟩ := hx.one
      cases r1.bls q
      exact ⟨a, ns, rfl, .inl (.inl h1), k.keep r (.bl _)⟩
  · cases e
def gAny : List D → Option D
  | [.lst ds] => (bls? ds).map fun ns => .bl (ns.any id)
  | _ => none
theorem ok_any : FnOkD K cls own (rAny K.K) gAny := by
  intro G al m σ H xs da d Q r hx e k
  unfold gAny at e
  split at e
  · next ds =>
    cases q : bls? ds with
    | none => rw [q] at e; cases e
    | some ns =>
      rw [q] at e; cases e
      obtain ⟨x, rfl, a, us, rfl, h1, r1⟩ := hx.one
      cases r1.bls q
      exact ⟨a, ns, rfl, .inl (.inl h1), k.keep r (.bl _)⟩
  · cases e
end
end MI

namespace MI
open PySem PySem.Spec L2

/-! ### slots stored -/
section
variable {K : KX} {cls : Nat → Addr} {own : Nat → Bool} {G : Gh} {al : List Addr} {m : MS} {σ : St} {H : Hp}
theorem getSet {α : Type} {l : List (Option α)} {i j : Nat} {x : Option α} {d : α} (h : (l.set i x)[j]? = some (some d)) : (j = i ∧ i < l.length ∧ x = some d) ∨ (j ≠ i ∧ l[j]? = some (some d)) := by
  by_cases e : j = i
  · subst e
    by_cases hl : j < l.length
    · rw [List.getElem?_set_self hl] at h; exact .inl ⟨rfl, hl, Option.some.inj h⟩
    · rw [List.getElem?_eq_none (by simpa using hl)] at h; cases h
  · rw [List.getElem?_set_ne (Ne.symm e)] at h; exact .inr ⟨e, h⟩
theorem Rst.set {i : Nat} {v : V} {d : D} (r : Rst K cls own G al m σ H) (hv : DV K (Zof G) al v d) (ho : own i = false) : Rst K cls own G al { m with sl := m.sl.set i (some d) } (σ.set i (some v)) H := by
  refine ⟨r.hst, by simp [r.len], fun j e hj hoj => ?_, fun j e hj hoj => ?_⟩
  · rcases getSet hj with ⟨rfl, hl, e1⟩ | ⟨ne, hj⟩
    · cases e1
      exact ⟨v, by rw [List.getElem?_set_self (by rw [r.len]; exact hl)], hv⟩
    · obtain ⟨u, h1, h2⟩ := r.val j e hj hoj
      exact ⟨u, by rw [List.getElem?_set_ne (Ne.symm ne)]; exact h1, h2⟩
  · rcases getSet hj with ⟨rfl, hl, e1⟩ | ⟨ne, hj⟩
    · rw [ho] at hoj; cases hoj
    · obtain ⟨a, ob, h1, h2, h3⟩ := r.own j e hj hoj
      exact ⟨a, ob, by rw [List.getElem?_set_ne (Ne.symm ne)]; exact h1, h2, h3⟩
theorem Rst.setOwn {i : Nat} {p : Addr} {o : HO} {d : D} (r : Rst K cls own G al m σ H) (hp : H p = some o) (hn : G p = none) (c : CO K (Zof G) al p o d) (ho : own i = true) :
    Rst K cls own (putG G p (.slot i) o) al { m with sl := m.sl.set i (some d) } (σ.set i (some (.ref p))) H := by
  have r' : Rst K cls own (putG G p (.slot i) o) al m σ H := r.tag hn hp
  have ev : Ev G al (putG G p (.slot i) o) al := ev_put hn
  refine ⟨r'.hst, by simp [r.len], fun j e hj hoj => ?_, fun j e hj hoj => ?_⟩
  · rcases getSet hj with ⟨rfl, hl, e1⟩ | ⟨ne, hj⟩
    · rw [ho] at hoj; cases hoj
    · obtain ⟨u, h1, h2⟩ := r'.val j e hj hoj
      exact ⟨u, by rw [List.getElem?_set_ne (Ne.symm ne)]; exact h1, h2⟩
  · rcases getSet hj with ⟨rfl, hl, e1⟩ | ⟨ne, hj⟩
    · cases e1
      exact ⟨p, o, by rw [List.getElem?_set_self (by rw [r.len]; exact hl)], putG_same, c.mono ev.same ev.al⟩
    · obtain ⟨a, ob, h1, h2, h3⟩ := r'.own j e hj hoj
      exact ⟨a, ob, by rw [List.getElem?_set_ne (Ne.symm ne)]; exact h1, h2, h3⟩
/-- an owned slot's container is another one now -/
theorem Rst.write {i : Nat} {a : Addr} {o o' : HO} {d d' : D} (r : Rst K cls own G al m σ H) (hi : m.sl[i]? = some (some d)) (ho : own i = true) (hs : σ[i]? = some (some (.ref a))) (hg : G a = some (.slot i, o)) (c : CO K (Zof G) al a o' d') :
    Ev G al (putG G a (.slot i) o') al ∧ Rst K cls own (putG G a (.slot i) o') al { m with sl := m.sl.set i (some d') } σ (upd H a o') := by
  have ne : ∀ {b t u}, G b = some (t, u) → t ≠ .slot i → b ≠ a := fun e h z => by subst z; rw [hg] at e; cases e; exact h rfl
  have ev : Ev G al (putG G a (.slot i) o') al := ⟨fun b u e => by rw [putG_ne (ne e (by intro z; cases z))]; exact e, fun b u e => by rw [putG_ne (ne e (by intro z; cases z))]; exact e, List.prefix_refl _⟩
  refine ⟨ev, ⟨⟨fun b t u e => ?_, r.hst.len, fun n ob e => ?_⟩, by simp [r.len], fun j e hj hoj => ?_, fun j e hj hoj => ?_⟩⟩
  · by_cases hb : b = a
    · subst hb; rw [putG_same] at e; cases e; exact upd_same
    · rw [putG_ne hb] at e; rw [upd_ne hb]; exact r.hst.gh b t u e
  · obtain ⟨b, h1, h2⟩ := r.hst.sto n ob e
    refine ⟨b, h1, ?_⟩
    unfold SO at h2 ⊢
    cases ob with
    | lst ds =>
      obtain ⟨xs, e1, r1⟩ := h2
      exact ⟨xs, by rw [putG_ne (ne e1 (by intro z; cases z))]; exact e1, r1.ev ev⟩
    | ins c fs => exact h2
  · rcases getSet hj with ⟨rfl, hl, e1⟩ | ⟨ne', hj⟩
    · rw [ho] at hoj; cases hoj
    · obtain ⟨u, h1, h2⟩ := r.val j e hj hoj
      exact ⟨u, h1, h2.ev ev⟩
  · rcases getSet hj with ⟨rfl, hl, e1⟩ | ⟨ne', hj⟩
    · cases e1
      exact ⟨a, o', hs, putG_same, c.mono ev.same ev.al⟩
    · obtain ⟨b, ob, h1, h2, h3⟩ := r.own j e hj hoj
      exact ⟨b, ob, h1, by rw [putG_ne (ne h2 (by intro z; cases z; exact ne' rfl))]; exact h2, h3.mono ev.same ev.al⟩
end

/-! ### displays -/
def looksV (hs : List Hd) : Option (List D) := hs.mapM fun h => match h with
  | .val d => some d
  | .slot _ => none
def eTup (fa : Den (List Hd)) : Den D := fa.bind fun hs => fun m => match looksV hs with
  | some ds => if fitL ds.length then .ok (.tup ds) m else .bad
  | none => .bad
def eLst (fa : Den (List Hd)) : Den D := fa.bind fun hs => fun m => match looksV hs with
  | some ds => if fitL ds.length then .ok (.lst ds) m else .bad
  | none => .bad
theorem looksV_dv {K : KX} {own : Nat → Bool} {G : Gh} {al : List Addr} {σ : St} : ∀ {vs : List V} {hs : List Hd} {ds : List D}, HVs K own G al σ vs hs → looksV hs = some ds → DVs K (Zof G) al vs ds
  | _, _, ds, .nil, e => by
    have e : some [] = some ds := e
    cases e; exact .nil
  | _, _, ds, .cons (h := h) (hs := hs) hv hr, e => by
    unfold looksV at e
    rw [List.mapM_cons] at e
    cases h with
    | slot i => simp at e
    | val d =>
      cases e2 : looksV hs with
      | none =>
        unfold looksV at e2
        simp [e2] at e
      | some ds2 =>
        have e3 := e2
        unfold looksV at e3
        simp [e3] at e
        subst e
        exact .cons hv (looksV_dv hr e2)
section
variable {cls : Nat → Addr} {own : Nat → Bool} {X : Cx} {a b : Expr} {fa fb : Den Hd} {pos : Pos} {es : List Expr} {fs : Den (List Hd)}
theorem se_tup {x1} (h : SHs cls own X es fs) : SE cls own X (.Tuple es x1 pos) (eTup fs) := by
  refine pe_imp (pe_tup h) fun σ H Q q => ?_
  obtain ⟨G, al, m, d, m', r, e, k⟩ := q
  obtain ⟨hs, m1, e1, e⟩ := bind_ok e
  split at e
  · next ds l =>
    split at e
    · next hf =>
      cases e
      refine ⟨G, al, m, hs, _, r, e1, fun G1 al1 v H1 ev1 r1 hv1 => ?_⟩
      have dv := looksV_dv hv1 l
      exact ⟨by rw [dv.length]; exact fitL_le hf, fun p hp => Post.tup (fun G2 al2 v2 H2 ev2 r2 dv2 => k G2 al2 v2 H2 (ev1.trans ev2) r2 dv2) r1 dv hp⟩
    · cases e
  · cases e
theorem sf_lst (h : SHs cls own X es fs) : SF cls own X (.List es pos) (eLst fs) := by
  refine pe_imp (pe_lst h) fun σ H Q q => ?_
  obtain ⟨G, al, m, d, m', r, e, k⟩ := q
  obtain ⟨hs, m1, e1, e⟩ := bind_ok e
  split at e
  · next ds l =>
    split at e
    · next hf =>
      cases e
      refine ⟨G, al, m, hs, _, r, e1, fun G1 al1 v H1 ev1 r1 hv1 => ?_⟩
      have dv := looksV_dv hv1 l
      exact ⟨by rw [dv.length]; exact fitL_le hf, fun p hp => PostF.lst (fun G2 al2 v2 o2 H2 ev2 r2 h2 n2 c2 => k G2 al2 v2 o2 H2 (ev1.trans ev2) r2 h2 n2 c2) r1 dv hp⟩
    · cases e
  · cases e

/-! ### tests -/
def gTru : D → Option Bool
  | .non => some false
  | .bl b => some b
  | .int i => some (i != 0)
  | .str z => if fitL z.length then some ((z.length : Int) != 0) else none
  | .lst ds => some (!ds.isEmpty)
  | .tup ds => some (!ds.isEmpty)
  | _ => none
def bTru (fa : Den Hd) : Den Bool := fa.bind fun h => fun m => match look h m with
  | some d => match gTru d with
    | some b => .ok b m
    | none => .bad
  | none => .bad
def bOf (f : Den D) : Den Bool := f.bind fun d => fun m => match d with
  | .bl b => .ok b m
  | _ => .bad
theorem isEmpty_dvs {K : KX} {Z : Hp} {al : List Addr} {xs : List V} {ds : List D} (h : DVs K Z al xs ds) : (!ds.isEmpty) = !xs.isEmpty := by cases h <;> rfl
theorem tru_of {K : KX} {H Z : Hp} {al : List Addr} {v : V} {d : D} {b : Bool} (s : Same Z H) (h : CR K H Z al v d) (e : gTru d = some b) : TruV K.K v H b := by
  cases d with
  | non => cases e; cases h.non; rfl
  | bl c => cases e; cases h.bl; rfl
  | int i => cases e; cases h.int; rfl
  | str z =>
    have e : (if fitL z.length then some ((z.length : Int) != 0) else none) = some b := e
    split at e
    · next hf => cases e; cases h.str; exact ⟨fitL_le hf, rfl⟩
    · cases e
  | lst ds =>
    cases e
    obtain ⟨a, xs, rfl, h1, r⟩ := h
    exact .inl ⟨xs, .inl (.inl h1), isEmpty_dvs r⟩
  | tup ds =>
    cases e
    obtain ⟨a, xs, rfl, h1, r⟩ := CR.tup h
    exact .inr (.inl ⟨xs, Same.tupS s h1, isEmpty_dvs r⟩)
  | _ => cases e
theorem sb_tru (h : SH cls own X a fa) (he : ∀ whole, isTrue a X.env whole = (do let v ← whole; standAt a.pos; holding [v] (truthy v)) := by intro _; rfl) : SB cls own X a (bTru fa) := by
  refine pt_imp (pt_truth h he) fun σ H Q q => ?_
  obtain ⟨G, al, m, d, m', r, e, k⟩ := q
  obtain ⟨h1, m1, e1, e⟩ := bind_ok e
  split at e
  · next x l =>
    split at e
    · next b t =>
      cases e
      refine ⟨G, al, m, h1, _, r, e1, fun G1 al1 v H1 ev1 r1 hv1 => ?_⟩
      exact ⟨_, tru_of r1.zh (look_cr r1 hv1 l) t, k G1 al1 H1 ev1 r1⟩
    · cases e
  · cases e
theorem sb_cmp {op : CmpOp} {r : R2} {g : D → D → Option D} (ho : OpR X (compareOp op) r) (hg : OpOk X.kx cls own r g) (ha : SH cls own X a fa) (hb : SH cls own X b fb) (hm : behindInMarks op b = false := by first | exact nobehind _ (by decide) (by decide) | rfl) :
    SB cls own X (.Compare a [op] [b] pos) (bOf (eOp g fa fb)) := by
  refine pt_imp (pt_cmpR ho ha hb hm) fun σ H Q q => ?_
  obtain ⟨G, al, m, d, m', r, e, k⟩ := q
  obtain ⟨d1, m1, e1, e⟩ := bind_ok e
  split at e
  · next c =>
    cases e
    obtain ⟨h1, m1, h2, x, y, e1, e2, l1, l2, gz⟩ := eOp_ok e1
    refine ⟨G, al, m, h1, m1, r, e1, fun G1 al1 v H1 ev1 r1 hv1 => ⟨G1, al1, m1, h2, _, r1, e2, fun G2 al2 u H2 ev2 r2 hv2 => ?_⟩⟩
    refine hg G2 al2 _ σ H2 v u x y _ _ r2 (look_cr r2 (hv1.ev ev2) l1) (look_cr r2 hv2 l2) gz fun G3 al3 w H3 ev3 r3 dv => ?_
    cases dv
    exact ⟨_, rfl, k G3 al3 H3 ((ev1.trans ev2).trans ev3) r3⟩
  · cases e
def bAnd (f g : Den Bool) : Den Bool := f.bind fun c => if c then g else .ret false
def bOr (f g : Den Bool) : Den Bool := f.bind fun c => if c then .ret true else g
def bNot (f : Den Bool) : Den Bool := f.bind fun c => .ret (!c)
abbrev SW (cls : Nat → Addr) (own : Nat → Bool) (X : Cx) (e : Expr) (f : Den Bool) : Prop := PW X e (tDb X.kx cls own f)
theorem pw_imp {X : Cx} {e : Expr} {t t' : TT} (h : PW X e t) (i : ∀ σ H Q, t' σ H Q → t σ H Q) : PW X e t' := ⟨fun w pins s σ H Q I q => h.run w pins s σ H Q I (i σ H Q q)⟩
theorem tAnd_of {K : KX} {f g : Den Bool} {σ : St} {H : Hp} {Q : Bool → Hp → Prop} (q : tDb K cls own (bAnd f g) σ H Q) : tAnd (tDb K cls own f) (tDb K cls own g) σ H Q := by
  obtain ⟨G, al, m, d, m', r, e, k⟩ := q
  obtain ⟨c, m1, e1, e⟩ := bind_ok e
  refine ⟨G, al, m, c, m1, r, e1, fun G1 al1 H1 ev1 r1 => ?_⟩
  cases c with
  | true => exact ⟨G1, al1, m1, d, m', r1, e, fun G2 al2 H2 ev2 r2 => k G2 al2 H2 (ev1.trans ev2) r2⟩
  | false => cases e; exact k G1 al1 H1 ev1 r1
theorem tOr_of {K : KX} {f g : Den Bool} {σ : St} {H : Hp} {Q : Bool → Hp → Prop} (q : tDb K cls own (bOr f g) σ H Q) : tOr (tDb K cls own f) (tDb K cls own g) σ H Q := by
  obtain ⟨G, al, m, d, m', r, e, k⟩ := q
  obtain ⟨c, m1, e1, e⟩ := bind_ok e
  refine ⟨G, al, m, c, m1, r, e1, fun G1 al1 H1 ev1 r1 => ?_⟩
  cases c with
  | false => exact ⟨G1, al1, m1, d, m', r1, e, fun G2 al2 H2 ev2 r2 => k G2 al2 H2 (ev1.trans ev2) r2⟩
  | true => cases e; exact k G1 al1 H1 ev1 r1
theorem sw_and1 {f : Den Bool} (h : SB cls own X a f) : SW cls own X (.BoolOp .And [a] pos) f := pw_and1 h
theorem sw_or1 {f : Den Bool} (h : SB cls own X a f) : SW cls own X (.BoolOp .Or [a] pos) f := pw_or1 h
theorem sw_and {f g : Den Bool} {rest : List Expr} (h : SB cls own X a f) (hr : SW cls own X (.BoolOp .And (b :: rest) pos) g) : SW cls own X (.BoolOp .And (a :: b :: rest) pos) (bAnd f g) := pw_imp (pw_and h hr) fun _ _ _ q => tAnd_of q
theorem sw_or {f g : Den Bool} {rest : List Expr} (h : SB cls own X a f) (hr : SW cls own X (.BoolOp .Or (b :: rest) pos) g) : SW cls own X (.BoolOp .Or (a :: b :: rest) pos) (bOr f g) := pw_imp (pw_or h hr) fun _ _ _ q => tOr_of q
theorem sb_w {f : Den Bool} (h : SW cls own X a f) : SB cls own X a f := h.pt
theorem sb_not {f : Den Bool} (h : SB cls own X a f) : SB cls own X (.UnaryOp .Not a pos) (bNot f) := by
  refine pt_imp (pt_not h) fun σ H Q q => ?_
  obtain ⟨G, al, m, d, m', r, e, k⟩ := q
  obtain ⟨c, m1, e1, e⟩ := bind_ok e
  cases e
  exact ⟨G, al, m, c, _, r, e1, fun G1 al1 H1 ev1 r1 => k G1 al1 H1 ev1 r1⟩
/-! values: and, or, not, if -/
def eAnd (f g : Den D) : Den D := (bOf f).bind fun c => if c then g else .ret (.bl false)
def eOr (f g : Den D) : Den D := (bOf f).bind fun c => if c then .ret (.bl true) else g
def eNot (f : Den D) : Den D := (bOf f).bind fun c => .ret (.bl (!c))
def eIf (c : Den Bool) (f g : Den D) : Den D := c.bind fun c => if c then f else g
theorem bOf_ok {f : Den D} {m m' : MS} {b : Bool} (h : bOf f m = .ok b m') : f m = .ok (.bl b) m' := by
  obtain ⟨d, m1, e1, e⟩ := bind_ok h
  split at e
  · cases e; exact e1
  · cases e
theorem se_one {op} {f : Den D} (h : SE cls own X a f) : SE cls own X (.BoolOp op [a] pos) f := pe_one h
theorem se_and {f g : Den D} {rest : List Expr} (h : SE cls own X a f) (hr : SE cls own X (.BoolOp .And (b :: rest) pos) g) : SE cls own X (.BoolOp .And (a :: b :: rest) pos) (eAnd f g) := by
  refine pe_imp (pe_and h hr) fun σ H Q q => ?_
  obtain ⟨G, al, m, d, m', r, e, k⟩ := q
  obtain ⟨c, m1, e1, e⟩ := bind_ok e
  refine ⟨G, al, m, _, m1, r, bOf_ok e1, fun G1 al1 v H1 ev1 r1 dv => ?_⟩
  cases dv
  refine ⟨c, rfl, ?_⟩
  cases c with
  | true => exact ⟨G1, al1, m1, d, m', r1, e, fun G2 al2 v2 H2 ev2 r2 => k G2 al2 v2 H2 (ev1.trans ev2) r2⟩
  | false => cases e; exact k G1 al1 _ H1 ev1 r1 (.bl _)
theorem se_or {f g : Den D} {rest : List Expr} (h : SE cls own X a f) (hr : SE cls own X (.BoolOp .Or (b :: rest) pos) g) : SE cls own X (.BoolOp .Or (a :: b :: rest) pos) (eOr f g) := by
  refine pe_imp (pe_or h hr) fun σ H Q q => ?_
  obtain ⟨G, al, m, d, m', r, e, k⟩ := q
  obtain ⟨c, m1, e1, e⟩ := bind_ok e
  refine ⟨G, al, m, _, m1, r, bOf_ok e1, fun G1 al1 v H1 ev1 r1 dv => ?_⟩
  cases dv
  refine ⟨c, rfl, ?_⟩
  cases c with
  | false => exact ⟨G1, al1, m1, d, m', r1, e, fun G2 al2 v2 H2 ev2 r2 => k G2 al2 v2 H2 (ev1.trans ev2) r2⟩
  | true => cases e; exact k G1 al1 _ H1 ev1 r1 (.bl _)
theorem se_not {f : Den D} (h : SE cls own X a f) : SE cls own X (.UnaryOp .Not a pos) (eNot f) := by
  refine pe_imp (pe_not h) fun σ H Q q => ?_
  obtain ⟨G, al, m, d, m', r, e, k⟩ := q
  obtain ⟨c, m1, e1, e⟩ := bind_ok e
  cases e
  refine ⟨G, al, m, _, _, r, bOf_ok e1, fun G1 al1 v H1 ev1 r1 dv => ?_⟩
  cases dv
  exact ⟨c, rfl, k G1 al1 _ H1 ev1 r1 (.bl _)⟩
theorem se_if {c : Expr} {fc : Den Bool} {f g : Den D} (hc : SB cls own X c fc) (ha : SE cls own X a f) (hb : SE cls own X b g) : SE cls own X (.IfExp c a b pos) (eIf fc f g) := by
  refine pe_imp (pe_ifExp hc ha hb) fun σ H Q q => ?_
  obtain ⟨G, al, m, d, m', r, e, k⟩ := q
  obtain ⟨c, m1, e1, e⟩ := bind_ok e
  refine ⟨G, al, m, c, m1, r, e1, fun G1 al1 H1 ev1 r1 => ?_⟩
  cases c with
  | true => exact ⟨G1, al1, m1, d, m', r1, e, fun G2 al2 v2 H2 ev2 r2 => k G2 al2 v2 H2 (ev1.trans ev2) r2⟩
  | false => exact ⟨G1, al1, m1, d, m', r1, e, fun G2 al2 v2 H2 ev2 r2 => k G2 al2 v2 H2 (ev1.trans ev2) r2⟩
end
end MI

namespace MI
open PySem PySem.Spec L2

/-! ### methods of an owned slot -/
def isLst : D → Bool
  | .lst _ => true
  | _ => false
/-- slot i's list is changed: g of its items and the arguments: what comes back, the new items -/
def eMut (i : Nat) (g : List D → List D → Option (D × List D)) (fa : Den (List D)) : Den D := fun m => match m.sl[i]? with
  | some (some (.lst _)) => match fa m with
    | .ok xs m1 => match m1.sl[i]? with
      | some (some (.lst ds)) => match g ds xs with
        | some (z, ds') => .ok z { m1 with sl := m1.sl.set i (some (.lst ds')) }
        | none => .bad
      | _ => .bad
    | .bad => .bad
  | _ => .bad
/-- the arguments as values / as they are to be read -/
def aVals (fa : Den (List Hd)) : Den (List D) := fa.bind fun hs => fun m => match looksV hs with
  | some ds => .ok ds m
  | none => .bad
def aLooks (fa : Den (List Hd)) : Den (List D) := fa.bind fun hs => fun m => match looks hs m with
  | some ds => .ok ds m
  | none => .bad
theorem aVals_ok {fa : Den (List Hd)} {m m' : MS} {ds : List D} (e : aVals fa m = .ok ds m') : ∃ hs, fa m = .ok hs m' ∧ looksV hs = some ds := by
  obtain ⟨hs, m1, e1, e⟩ := bind_ok e
  split at e
  · next l => cases e; exact ⟨hs, e1, l⟩
  · cases e
theorem aLooks_ok {fa : Den (List Hd)} {m m' : MS} {ds : List D} (e : aLooks fa m = .ok ds m') : ∃ hs, fa m = .ok hs m' ∧ looks hs m' = some ds := by
  obtain ⟨hs, m1, e1, e⟩ := bind_ok e
  split at e
  · next l => cases e; exact ⟨hs, e1, l⟩
  · cases e
theorem eMut_ok {i : Nat} {g : List D → List D → Option (D × List D)} {fa : Den (List D)} {m m' : MS} {z : D} (e : eMut i g fa m = .ok z m') :
    ∃ ds0 xs m1 ds ds', m.sl[i]? = some (some (.lst ds0)) ∧ fa m = .ok xs m1 ∧ m1.sl[i]? = some (some (.lst ds)) ∧ g ds xs = some (z, ds') ∧ m' = { m1 with sl := m1.sl.set i (some (.lst ds')) } := by
  unfold eMut at e
  split at e
  · next ds0 e0 =>
    split at e
    · next xs m1 e1 =>
      split at e
      · next ds e2 =>
        split at e
        · next z' ds' e3 => cases e; exact ⟨ds0, xs, m1, ds, ds', e0, e1, e2, e3, rfl⟩
        · cases e
      · cases e
    · cases e
  · cases e
def gAppend : List D → List D → Option (D × List D)
  | ds, [x] => if ds.length < sizeLine then some (.non, ds ++ [x]) else none
  | _, _ => none
def gExtend : List D → List D → Option (D × List D)
  | ds, [.lst xs] => if ds.length + xs.length ≤ sizeLine then some (.non, ds ++ xs) else none
  | _, _ => none
def gPop : List D → List D → Option (D × List D)
  | ds, [] => match ds[ds.length - 1]? with
    | some x => some (x, ds.dropLast)
    | none => none
  | _, _ => none
theorem CO.lst {K : KX} {Z : Hp} {al : List Addr} {a : Addr} {o : HO} {ds : List D} (c : CO K Z al a o (.lst ds)) : ∃ xs, o = .lst xs ∧ DVs K Z al xs ds := by
  cases o with
  | lst xs => exact ⟨xs, rfl, c⟩
  | _ => exact (show False from c).elim
theorem DVs.dropLast {K : KX} {Z : Hp} {al : List Addr} {xs : List V} {ds : List D} (h : DVs K Z al xs ds) : DVs K Z al xs.dropLast ds.dropLast := by
  rw [List.dropLast_eq_take, List.dropLast_eq_take, h.length]
  exact h.take _
section
variable {cls : Nat → Addr} {own : Nat → Bool} {X : Cx} {a b : Expr} {fa fb : Den Hd} {pos apos cpos npos : Pos} {es : List Expr} {fs : Den (List Hd)} {i : Nat} {x : Str}
theorem own_lst {K : KX} {G : Gh} {al : List Addr} {m : MS} {σ : St} {H : Hp} {ds : List D} (r : Rst K cls own G al m σ H) (ho : own i = true) (e : m.sl[i]? = some (some (.lst ds))) :
    ∃ a xs, σ[i]? = some (some (.ref a)) ∧ G a = some (.slot i, .lst xs) ∧ H a = some (.lst xs) ∧ DVs K (Zof G) al xs ds := by
  obtain ⟨a, o, h1, h2, h3⟩ := r.own i _ e ho
  obtain ⟨xs, rfl, h4⟩ := h3.lst
  exact ⟨a, xs, h1, h2, r.hst.gh _ _ _ h2, h4⟩
/-- found.append(e) -/
theorem se_append (hN : X.N[i]? = some x) (hv : Vis X.env.scope x) (ho : own i = true) (ha : SHs cls own X (a :: es) fs)
    (hd : (x == ("__debug__" : Str)) = false := by decide) (hcd : (x == ("__classdict__" : Str)) = false := by decide)
    (hbase : attributeBase (.Name x npos) "append" X.env (eval (.Name x npos) X.env) = eval (.Name x npos) X.env := by rfl)
    (hfew : ((backTo cpos (starEach (a :: es) X.env)).all (fun x => !x.1) && (backToKw cpos (keywordEach [] X.env)).all (fun x => x.1.isSome)
      && decide ((a :: es).length + ([] : List Keyword).length + (if ([] : List Keyword).isEmpty then 0 else 1) < 30)) = true := by rfl)
    (hline : (apos.endLine == cpos.line) = true := by rfl) (hs : starEach (a :: es) X.env = (false, eval a X.env) :: starEach es X.env := by rfl) (hplain : (backTo cpos (starEach es X.env)).any (·.1) = false := by rfl) :
    SE cls own X (.Call (.Attribute (.Name x npos) "append" apos) (a :: es) [] cpos) (eMut i gAppend (aVals fs)) := by
  refine pe_imp (pe_bm PySem.F.plainAttrs_list PySem.F.slot_list_append PySem.F.type_list_append mt_append (pe_var (pos := npos) hN hv hd hcd) ha hbase hfew hline hs hplain) fun σ H Q q => ?_
  obtain ⟨G, al, m, d, m', r, e, k⟩ := q
  obtain ⟨ds0, xs, m1, ds, ds', e0, e1, e2, e3, rfl⟩ := eMut_ok e
  obtain ⟨hs, e1, l⟩ := aVals_ok e1
  obtain ⟨p, us0, s0, _, h0, _⟩ := own_lst r ho e0
  refine ⟨.ref p, s0, .inl ⟨rfl, us0, .inl (.inl h0)⟩, G, al, m, hs, m1, r, e1, fun G1 al1 v H1 ev1 r1 hv1 => ?_⟩
  obtain ⟨p', us, s1, g1, h1, c1⟩ := own_lst r1 ho e2
  rw [s0] at s1; cases s1
  unfold gAppend at e3
  split at e3
  · next y =>
    split at e3
    · next hf =>
      cases e3
      have dv := looksV_dv hv1 l
      cases dv with
      | cons d1 d2 =>
        cases d2
        obtain ⟨ev2, r2⟩ := r1.write e2 ho s0 g1 (o' := .lst (us ++ [_])) (d' := .lst (ds ++ [y])) (c1.append (.cons d1 .nil))
        exact ⟨p, us, _, rfl, rfl, h1, by rw [c1.length]; exact hf, k _ _ _ _ (ev1.trans ev2) r2 .non⟩
    · cases e3
  · cases e3
/-- found.extend(e) -/
theorem se_extend (hN : X.N[i]? = some x) (hv : Vis X.env.scope x) (ho : own i = true) (ha : SHs cls own X (a :: es) fs)
    (hd : (x == ("__debug__" : Str)) = false := by decide) (hcd : (x == ("__classdict__" : Str)) = false := by decide)
    (hbase : attributeBase (.Name x npos) "extend" X.env (eval (.Name x npos) X.env) = eval (.Name x npos) X.env := by rfl)
    (hfew : ((backTo cpos (starEach (a :: es) X.env)).all (fun x => !x.1) && (backToKw cpos (keywordEach [] X.env)).all (fun x => x.1.isSome)
      && decide ((a :: es).length + ([] : List Keyword).length + (if ([] : List Keyword).isEmpty then 0 else 1) < 30)) = true := by rfl)
    (hline : (apos.endLine == cpos.line) = true := by rfl) (hs : starEach (a :: es) X.env = (false, eval a X.env) :: starEach es X.env := by rfl) (hplain : (backTo cpos (starEach es X.env)).any (·.1) = false := by rfl) :
    SE cls own X (.Call (.Attribute (.Name x npos) "extend" apos) (a :: es) [] cpos) (eMut i gExtend (aLooks fs)) := by
  refine pe_imp (pe_bm PySem.F.plainAttrs_list PySem.F.slot_list_extend PySem.F.type_list_extend mt_extend (pe_var (pos := npos) hN hv hd hcd) ha hbase hfew hline hs hplain) fun σ H Q q => ?_
  obtain ⟨G, al, m, d, m', r, e, k⟩ := q
  obtain ⟨ds0, xs, m1, ds, ds', e0, e1, e2, e3, rfl⟩ := eMut_ok e
  obtain ⟨hs, e1, l⟩ := aLooks_ok e1
  obtain ⟨p, us0, s0, _, h0, _⟩ := own_lst r ho e0
  refine ⟨.ref p, s0, .inl ⟨rfl, us0, .inl (.inl h0)⟩, G, al, m, hs, m1, r, e1, fun G1 al1 v H1 ev1 r1 hv1 => ?_⟩
  obtain ⟨p', us, s1, g1, h1, c1⟩ := own_lst r1 ho e2
  rw [s0] at s1; cases s1
  unfold gExtend at e3
  split at e3
  · next ys =>
    split at e3
    · next hf =>
      cases e3
      obtain ⟨w, rfl, bq, zs, rfl, hb, rb⟩ := (looks_cr r1 hv1 l).one
      obtain ⟨ev2, r2⟩ := r1.write e2 ho s0 g1 (o' := .lst (us ++ zs)) (d' := .lst (ds ++ ys)) (c1.append rb)
      exact ⟨p, bq, us, zs, rfl, rfl, h1, hb, by rw [c1.length, rb.length]; exact hf, k _ _ _ _ (ev1.trans ev2) r2 .non⟩
    · cases e3
  · cases e3
/-- found.pop() -/
theorem se_pop (hN : X.N[i]? = some x) (hv : Vis X.env.scope x) (ho : own i = true)
    (hd : (x == ("__debug__" : Str)) = false := by decide) (hcd : (x == ("__classdict__" : Str)) = false := by decide)
    (hbase : attributeBase (.Name x npos) "pop" X.env (eval (.Name x npos) X.env) = eval (.Name x npos) X.env := by rfl) (hline : (apos.endLine == cpos.line) = true := by rfl) :
    SE cls own X (.Call (.Attribute (.Name x npos) "pop" apos) [] [] cpos) (eMut i gPop (.ret [])) := by
  refine pe_imp (pe_bm0 PySem.F.plainAttrs_list PySem.F.slot_list_pop PySem.F.type_list_pop mt_pop (pe_var (pos := npos) hN hv hd hcd) hbase hline) fun σ H Q q => ?_
  obtain ⟨G, al, m, d, m', r, e, k⟩ := q
  obtain ⟨ds0, xs, m1, ds, ds', e0, e1, e2, e3, rfl⟩ := eMut_ok e
  cases e1
  obtain ⟨p, us, s0, g1, h0, c1⟩ := own_lst r ho e2
  cases hy : ds[ds.length - 1]? with
  | none =>
    unfold gPop at e3
    simp only [hy] at e3
    cases e3
  | some y =>
    unfold gPop at e3
    simp only [hy] at e3
    cases e3
    obtain ⟨v, hv1, dv⟩ := c1.get hy
    obtain ⟨ev2, r2⟩ := r.write e2 ho s0 g1 (o' := .lst us.dropLast) (d' := .lst ds.dropLast) c1.dropLast
    exact ⟨.ref p, s0, .inl ⟨rfl, us, .inl (.inl h0)⟩, p, us, v, rfl, rfl, h0, by rw [c1.length]; exact hv1, k _ _ _ _ ev2 r2 (dv.ev ev2)⟩
end

/-! ### statements -/
inductive Fl where
  | nx | rt (d : D) | bk | ct
def EndsD (K : KX) (Z : Hp) (al : List Addr) (E : Ends) (σ : St) (H : Hp) : Fl → Prop
  | .nx => E.nx σ H
  | .rt d => ∀ v, DV K Z al v d → E.rt v H
  | .bk => E.bk σ H
  | .ct => E.ct σ H
def tS (K : KX) (cls : Nat → Addr) (own : Nat → Bool) (f : Den Fl) : TS := fun E σ H => ∃ G al m fl m', Rst K cls own G al m σ H ∧ f m = .ok fl m' ∧
  ∀ G' al' σ' H', Ev G al G' al' → Rst K cls own G' al' m' σ' H' → EndsD K (Zof G') al' E σ' H' fl
section
variable (cls : Nat → Addr) (own : Nat → Bool) (X : Cx)
abbrev SS (e : Stmt) (f : Den Fl) : Prop := PS X e (tS X.kx cls own f)
abbrev SSs (e : List Stmt) (f : Den Fl) : Prop := PSs X e (tS X.kx cls own f)
end
def sSeq (f g : Den Fl) : Den Fl := f.bind fun fl => match fl with
  | .nx => g
  | fl => .ret fl
def sNx : Den Fl := .ret .nx
def sDrop (f : Den D) : Den Fl := f.bind fun _ => .ret .nx
def sRet (f : Den D) : Den Fl := f.bind fun d => .ret (.rt d)
def sIf (c : Den Bool) (f g : Den Fl) : Den Fl := c.bind fun b => if b then f else g
def sSet (i : Nat) (f : Den D) : Den Fl := f.bind fun d => fun m => .ok .nx { m with sl := m.sl.set i (some d) }
section
variable {cls : Nat → Addr} {own : Nat → Bool} {X : Cx} {a b : Expr} {pos : Pos} {st : Stmt} {sts : List Stmt} {f g : Den Fl}
theorem ss_nil : SSs cls own X [] sNx := pss_imp pss_nil fun E σ H ⟨G, al, m, fl, m', r, e, k⟩ => by cases e; exact k G al σ H .refl r
theorem ss_cons (h : SS cls own X st f) (hr : SSs cls own X sts g) : SSs cls own X (st :: sts) (sSeq f g) := by
  refine pss_imp (pss_cons h hr) fun E σ H q => ?_
  obtain ⟨G, al, m, fl, m', r, e, k⟩ := q
  obtain ⟨fl1, m1, e1, e⟩ := bind_ok e
  refine ⟨G, al, m, fl1, m1, r, e1, fun G1 al1 σ1 H1 ev1 r1 => ?_⟩
  cases fl1 with
  | nx => exact ⟨G1, al1, m1, fl, m', r1, e, fun G2 al2 σ2 H2 ev2 r2 => k G2 al2 σ2 H2 (ev1.trans ev2) r2⟩
  | rt d => cases e; exact k G1 al1 σ1 H1 ev1 r1
  | bk => cases e; exact k G1 al1 σ1 H1 ev1 r1
  | ct => cases e; exact k G1 al1 σ1 H1 ev1 r1
theorem ss_one (h : SS cls own X st f) : SSs cls own X [st] f := pss_one h
theorem ss_pass : SS cls own X (.Pass pos) sNx := ps_imp ps_pass fun E σ H ⟨G, al, m, fl, m', r, e, k⟩ => by cases e; exact k G al σ H .refl r
theorem ss_continue : SS cls own X (.Continue pos) (.ret .ct) := ps_imp ps_continue fun E σ H ⟨G, al, m, fl, m', r, e, k⟩ => by cases e; exact k G al σ H .refl r
theorem ss_break : SS cls own X (.Break pos) (.ret .bk) := ps_imp ps_break fun E σ H ⟨G, al, m, fl, m', r, e, k⟩ => by cases e; exact k G al σ H .refl r
theorem ss_never : SS cls own X st (fun _ => .bad) := ps_imp ps_never fun E σ H ⟨G, al, m, fl, m', r, e, k⟩ => by cases e
theorem ss_expr {fe : Den D} (h : SE cls own X a fe) (hs : swapsWith a none pos.line X.env = pure false := by rfl) : SS cls own X (.Expr a pos) (sDrop fe) := by
  refine ps_imp (ps_expr h hs) fun E σ H q => ?_
  obtain ⟨G, al, m, fl, m', r, e, k⟩ := q
  obtain ⟨d, m1, e1, e⟩ := bind_ok e
  cases e
  exact ⟨G, al, m, d, _, r, e1, fun G1 al1 v H1 ev1 r1 dv => k G1 al1 σ H1 ev1 r1⟩
theorem ss_ret {fe : Den D} (h : SE cls own X a fe) : SS cls own X (.Return (some a) pos) (sRet fe) := by
  refine ps_imp (ps_ret h) fun E σ H q => ?_
  obtain ⟨G, al, m, fl, m', r, e, k⟩ := q
  obtain ⟨d, m1, e1, e⟩ := bind_ok e
  cases e
  exact ⟨G, al, m, d, _, r, e1, fun G1 al1 v H1 ev1 r1 dv => k G1 al1 σ H1 ev1 r1 v dv⟩
theorem ss_if {c : Expr} {sa sb : List Stmt} {fc : Den Bool} (hc : SB cls own X c fc) (ha : SSs cls own X sa f) (hb : SSs cls own X sb g) : SS cls own X (.If c sa sb pos) (sIf fc f g) := by
  refine ps_imp (ps_if hc ha hb) fun E σ H q => ?_
  obtain ⟨G, al, m, fl, m', r, e, k⟩ := q
  obtain ⟨d, m1, e1, e⟩ := bind_ok e
  refine ⟨G, al, m, d, m1, r, e1, fun G1 al1 H1 ev1 r1 => ?_⟩
  cases d with
  | true => exact ⟨G1, al1, m1, fl, m', r1, e, fun G2 al2 σ2 H2 ev2 r2 => k G2 al2 σ2 H2 (ev1.trans ev2) r2⟩
  | false => exact ⟨G1, al1, m1, fl, m', r1, e, fun G2 al2 σ2 H2 ev2 r2 => k G2 al2 σ2 H2 (ev1.trans ev2) r2⟩
theorem ss_set {i : Nat} {x : Str} {pos' : Pos} {fe : Den D} (ho : own i = false) (hN : X.N.Nodup) (hi : X.N[i]? = some x) (hx : Loc X.env.scope x) (h : SE cls own X a fe) (hs : swapsWith a (some (.Name x pos')) pos.line X.env = pure false := by rfl)
    (hf : X.fn x = true ∨ X.env.scope.names.lookup x = some .local := by first | exact .inl rfl | exact .inr rfl | assumption) : SS cls own X (.Assign [.Name x pos'] a pos) (sSet i fe) := by
  refine ps_imp (ps_set hN hi hx h hs hf) fun E σ H q => ?_
  obtain ⟨G, al, m, fl, m', r, e, k⟩ := q
  obtain ⟨d, m1, e1, e⟩ := bind_ok e
  cases e
  exact ⟨G, al, m, d, _, r, e1, fun G1 al1 v H1 ev1 r1 dv => k G1 al1 _ H1 ev1 (r1.set dv ho)⟩
theorem ss_own {i : Nat} {x : Str} {pos' : Pos} {fe : Den D} (ho : own i = true) (hN : X.N.Nodup) (hi : X.N[i]? = some x) (hx : Loc X.env.scope x) (h : SF cls own X a fe) (hs : swapsWith a (some (.Name x pos')) pos.line X.env = pure false := by rfl)
    (hf : X.fn x = true ∨ X.env.scope.names.lookup x = some .local := by first | exact .inl rfl | exact .inr rfl | assumption) : SS cls own X (.Assign [.Name x pos'] a pos) (sSet i fe) := by
  refine ps_imp (ps_set hN hi hx h hs hf) fun E σ H q => ?_
  obtain ⟨G, al, m, fl, m', r, e, k⟩ := q
  obtain ⟨d, m1, e1, e⟩ := bind_ok e
  cases e
  exact ⟨G, al, m, d, _, r, e1, fun G1 al1 p o H1 ev1 r1 hp hn c => k _ al1 _ H1 (ev1.trans (ev_put hn)) (r1.setOwn hp hn c ho)⟩
end
end MI

namespace MI
open PySem PySem.Spec L2

/-! ### targets -/
inductive Tg where
  | nm (i : Nat)
  | tp (ts : List Tg)
mutual
def tgSet : Tg → D → List (Option D) → Option (List (Option D))
  | .nm i, d, sl => some (sl.set i (some d))
  | .tp ts, .tup ds, sl => tgSets ts ds sl
  | .tp _, _, _ => none
def tgSets : List Tg → List D → List (Option D) → Option (List (Option D))
  | [], [], sl => some sl
  | t :: ts, d :: ds, sl => match tgSet t d sl with
    | some sl' => tgSets ts ds sl'
    | none => none
  | _, _, _ => none
end
mutual
def tgSlots : Tg → List Nat
  | .nm i => [i]
  | .tp ts => tgSlotss ts
def tgSlotss : List Tg → List Nat
  | [] => []
  | t :: ts => tgSlots t ++ tgSlotss ts
end
/-- the slots beside vs are as they were -/
def Beside (vs : List Nat) (σ σ' : St) : Prop := σ'.length = σ.length ∧ ∀ j, j ∉ vs → σ'[j]? = σ[j]?
theorem Beside.trans {vs ws us : List Nat} {σ σ1 σ2 : St} (a : Beside vs σ σ1) (b : Beside ws σ1 σ2) (h1 : ∀ j ∈ vs, j ∈ us) (h2 : ∀ j ∈ ws, j ∈ us) : Beside us σ σ2 :=
  ⟨b.1.trans a.1, fun j hj => (b.2 j fun h => hj (h2 j h)).trans (a.2 j fun h => hj (h1 j h))⟩
def tG (K : KX) (cls : Nat → Addr) (own : Nat → Bool) (tg : Tg) : TG := fun v σ H Q => ∃ G al m d sl', Rst K cls own G al m σ H ∧ DV K (Zof G) al v d ∧ tgSet tg d m.sl = some sl' ∧
  ∀ σ', Rst K cls own G al { m with sl := sl' } σ' H → Beside (tgSlots tg) σ σ' → Q σ' H
def tGs (K : KX) (cls : Nat → Addr) (own : Nat → Bool) (tg : List Tg) : TGs := fun vs σ H Q => ∃ G al m ds sl', Rst K cls own G al m σ H ∧ DVs K (Zof G) al vs ds ∧ tgSets tg ds m.sl = some sl' ∧
  ∀ σ', Rst K cls own G al { m with sl := sl' } σ' H → Beside (tgSlotss tg) σ σ' → Q σ' H
theorem pg_imp {X : Cx} {e : Expr} {t t' : TG} (h : PG X e t) (i : ∀ v σ H Q, t' v σ H Q → t v σ H Q) : PG X e t' := ⟨fun pins s σ H v u Q I r q => h.run pins s σ H v u Q I r (i v σ H Q q)⟩
theorem pgs_imp {X : Cx} {e : List Expr} {t t' : TGs} (h : PGs X e t) (i : ∀ v σ H Q, t' v σ H Q → t v σ H Q) : PGs X e t' := ⟨fun pins s σ H v u Q I r q => h.run pins s σ H v u Q I r (i v σ H Q q)⟩
section
variable (cls : Nat → Addr) (own : Nat → Bool) (X : Cx)
abbrev SG (e : Expr) (f : Tg) : Prop := PG X e (tG X.kx cls own f)
abbrev SGs (e : List Expr) (f : List Tg) : Prop := PGs X e (tGs X.kx cls own f)
end
section
variable {cls : Nat → Addr} {own : Nat → Bool} {X : Cx} {a b : Expr} {pos : Pos} {es : List Expr} {tg : Tg} {tgs : List Tg}
theorem sg_name {i : Nat} {x : Str} (ho : own i = false) (hN : X.N.Nodup) (hi : X.N[i]? = some x) (hx : Loc X.env.scope x) (hf : X.fn x = true ∨ X.env.scope.names.lookup x = some .local := by first | exact .inl rfl | exact .inr rfl | assumption) : SG cls own X (.Name x pos) (.nm i) := by
  refine pg_imp (pg_name hN hi hx hf) fun v σ H Q q => ?_
  obtain ⟨G, al, m, d, sl', r, dv, e, k⟩ := q
  cases e
  exact k _ (r.set dv ho) ⟨by simp, fun j hj => by rw [List.getElem?_set_ne]; intro z; exact hj (by simp [tgSlots, z])⟩
theorem sgs_nil : SGs cls own X [] [] := by
  refine pgs_imp pgs_nil fun v σ H Q q => ?_
  obtain ⟨G, al, m, ds, sl', r, dv, e, k⟩ := q
  cases dv with
  | nil => cases e; exact ⟨rfl, k σ r ⟨rfl, fun _ _ => rfl⟩⟩
  | cons _ _ => cases e
theorem sgs_cons (h : SG cls own X a tg) (hr : SGs cls own X es tgs) (hs : (assignEach (a :: es) X.env).map (·.2) = assign a X.env :: (assignEach es X.env).map (·.2) := by rfl) : SGs cls own X (a :: es) (tg :: tgs) := by
  refine pgs_imp (pgs_cons h hr hs) fun v σ H Q q => ?_
  obtain ⟨G, al, m, ds, sl', r, dv, e, k⟩ := q
  cases dv with
  | nil => cases e
  | cons d1 d2 =>
    rename_i v1 vs d ds
    have e : (match tgSet tg d m.sl with | some sl' => tgSets tgs ds sl' | none => none) = some sl' := e
    split at e
    · next sl1 e1 =>
      refine ⟨v1, vs, rfl, G, al, m, d, sl1, r, d1, e1, fun σ1 r1 b1 => ?_⟩
      exact ⟨G, al, _, ds, sl', r1, d2, e, fun σ2 r2 b2 => k σ2 r2 (b1.trans b2 (fun j h => by simp [tgSlotss, h]) (fun j h => by simp [tgSlotss, h]))⟩
    · cases e
theorem tgSets_len : ∀ {ts : List Tg} {ds : List D} {sl sl' : List (Option D)}, tgSets ts ds sl = some sl' → ds.length = ts.length
  | [], [], _, _, _ => rfl
  | [], _ :: _, _, _, e => by cases e
  | _ :: _, [], _, _, e => by cases e
  | t :: ts, d :: ds, sl, sl', e => by
    rw [tgSets] at e
    split at e
    · rw [List.length_cons, List.length_cons, tgSets_len e]
    · cases e
theorem sg_tup {n k0 : Nat} (hc : X.calm = true) (h : SGs cls own X es tgs) (hl : tgs.length = n) (hn : (assignEach es X.env).length = n := by rfl) (hst : (assignEach es X.env).findIdx? (·.1) = none := by rfl) : SG cls own X (.Tuple es k0 pos) (.tp tgs) := by
  refine pg_imp (pg_tup hc h hn hst) fun v σ H Q q => ?_
  obtain ⟨G, al, m, d, sl', r, dv, e, k⟩ := q
  cases d with
  | tup ds =>
    have e : tgSets tgs ds m.sl = some sl' := e
    cases dv with
    | tup h1 r1 => exact ⟨_, _, rfl, Same.tupS r.zh h1, by rw [r1.length, tgSets_len e, hl], G, al, m, ds, sl', r, r1, e, fun σ' r' b => k σ' r' b⟩
  | _ => cases e
/-- target = value -/
def sAsg (tg : Tg) (f : Den D) : Den Fl := f.bind fun d => fun m => match tgSet tg d m.sl with
  | some sl => .ok .nx { m with sl := sl }
  | none => .bad
theorem ss_asg {fe : Den D} (he : SE cls own X a fe) (hg : SG cls own X b tg) (hs : swapsWithSole [b] a pos.line X.env = pure false := by rfl) (hw : swappedStores [b] a X.env = pure none := by rfl)
    (h1 : (assignEach [b] X.env).map (·.2) = [assign b X.env] := by rfl) : SS cls own X (.Assign [b] a pos) (sAsg tg fe) := by
  refine ps_imp (ps_asg he hg hs hw h1) fun E σ H q => ?_
  obtain ⟨G, al, m, fl, m', r, e, k⟩ := q
  obtain ⟨d, m1, e1, e⟩ := bind_ok e
  split at e
  · next sl e2 =>
    cases e
    refine ⟨G, al, m, d, m1, r, e1, fun G1 al1 v H1 ev1 r1 dv => ?_⟩
    exact ⟨G1, al1, m1, d, sl, r1, dv, e2, fun σ' r' _ => k G1 al1 σ' H1 ev1 r'⟩
  · cases e
end

/-! ### sources -/
structure WalkD (K : KX) (cls : Nat → Addr) (own : Nat → Bool) (J : It) (ds : List D) (Gs : Gh) (als : List Addr) : Prop where
  goes : ∀ G al m σ H i, EvZ Gs als G al → Rst K cls own G al m σ H → i < ds.length → J.go i H
  stops : ∀ G al m σ H, EvZ Gs als G al → Rst K cls own G al m σ H → J.stop ds.length H
  yields : ∀ G al m σ H i x H' d, EvZ Gs als G al → Rst K cls own G al m σ H → ds[i]? = some d → J.yld i H x H' → ∃ G', Ev G al G' al ∧ Rst K cls own G' al m σ H' ∧ DV K (Zof G') al x d ∧ (∀ a t o, G a = some (t, o) → G' a = some (t, o))
def tI (K : KX) (cls : Nat → Addr) (own : Nat → Bool) (f : Den (List D)) : TI := fun σ H R => ∃ G al m ds m', Rst K cls own G al m σ H ∧ f m = .ok ds m' ∧
  ∀ G' al' H' J, Ev G al G' al' → Rst K cls own G' al' m' σ H' → WalkD K cls own J ds G' al' → R J H'
theorem pi_imp {X : Cx} {tg e : Expr} {t t' : TI} (h : PI X tg e t) (i : ∀ σ H Q, t' σ H Q → t σ H Q) : PI X tg e t' := ⟨fun pins s σ H Q I q => h.run pins s σ H Q I (i σ H Q q)⟩
abbrev SI (cls : Nat → Addr) (own : Nat → Bool) (X : Cx) (tg e : Expr) (f : Den (List D)) : Prop := PI X tg e (tI X.kx cls own f)
/-- a list or a tuple, by its value -/
def iSeq (f : Den D) : Den (List D) := f.bind fun d => fun m => match d with
  | .lst ds => .ok ds m
  | .tup ds => .ok ds m
  | _ => .bad
section
variable {cls : Nat → Addr} {own : Nat → Bool} {X : Cx} {tg a b : Expr} {pos : Pos}
/-- the walked thing is a list or a tuple -/
theorem pi_seq {l : Expr} {tl : TE} (hl : PE X l tl) : PI X tg l (fun σ H R => tl σ H fun x H1 => iList X.K (tC x) σ H1 R ∨ iTup X.K (tC x) σ H1 R) := by
  refine ⟨fun pins s σ H R I h => ?_⟩
  refine thn (hl.run pins s σ H _ I h) fun v s1 ⟨x, H1, I1, rx, q⟩ => ?_
  rcases q with ⟨a, e, ⟨xs, hq⟩, q⟩ | ⟨a, e, ⟨xs, hq⟩, q⟩
  · subst e
    cases rx
    obtain ⟨its, rv, pl, hz⟩ := I1.list hq
    refine wpAny_pyIter_list pl.isList ⟨s1.heap.objs.size, [s1.heap.objs.size], _, _, H1, rfl, I1.kept (t' := s1.toks) (fun c o hc => Heap.get?_push_of_some _ hc), turn_list a _, ⟨_, Heap.get?_push_size _ rfl, rfl, rfl⟩, fun c hc => ?_, q⟩
    rw [List.mem_singleton.mp hc]
    exact I1.fpOk (Nat.le_refl _) (I1.hok.fresh (Nat.le_refl _))
  · subst e
    cases rx
    obtain ⟨its, rv, pl, hz⟩ := I1.tuple hq
    refine wpAny_pyIter_tuple (show s1.heap.IsTuple a its.toArray from pl) ⟨s1.heap.objs.size, [s1.heap.objs.size], _, _, H1, rfl, I1.kept (t' := s1.toks) (fun c o hc => Heap.get?_push_of_some _ hc), turn_tuple a _, ⟨_, Heap.get?_push_size _ rfl, rfl, rfl⟩, fun c hc => ?_, q⟩
    rw [List.mem_singleton.mp hc]
    exact I1.fpOk (Nat.le_refl _) (I1.hok.fresh (Nat.le_refl _))
theorem walk_lst {K : KX} {Gs : Gh} {als : List Addr} {p : Addr} {xs : List V} {ds : List D} (h : Zof Gs p = some (.lst xs)) (r : DVs K (Zof Gs) als xs ds) : WalkD K cls own (Itl K.K p) ds Gs als where
  goes := fun G al m σ H i ev rs hi => by
    obtain ⟨v, h1, _⟩ := r.get (List.getElem?_eq_getElem hi)
    exact ⟨xs, v, .inl (.inl (rs.zh _ _ (ev.same _ _ h))), h1⟩
  stops := fun G al m σ H ev rs => ⟨xs, .inl (.inl (rs.zh _ _ (ev.same _ _ h))), by rw [r.length]; exact Nat.le_refl _⟩
  yields := fun G al m σ H i x H' d ev rs hd y => by
    obtain ⟨e1, e2⟩ := y
    subst e1
    obtain ⟨v, h1, h2⟩ := (r.evz ev).get hd
    have := e2 xs (.inl (.inl (rs.zh _ _ (ev.same _ _ h))))
    rw [h1] at this; cases this
    exact ⟨G, .refl, rs, h2, fun _ _ _ q => q⟩
theorem walk_tupD {K : KX} {Gs : Gh} {als : List Addr} {p : Addr} {xs : List V} {ds : List D} (h : SqT K.K (Zof Gs) p xs) (r : DVs K (Zof Gs) als xs ds) : WalkD K cls own (Itt K.K p) ds Gs als where
  goes := fun G al m σ H i ev rs hi => by
    obtain ⟨v, h1, _⟩ := r.get (List.getElem?_eq_getElem hi)
    exact ⟨xs, v, Same.tupS rs.zh (Same.tupS ev.same h), h1⟩
  stops := fun G al m σ H ev rs => ⟨xs, Same.tupS rs.zh (Same.tupS ev.same h), by rw [r.length]; exact Nat.le_refl _⟩
  yields := fun G al m σ H i x H' d ev rs hd y => by
    obtain ⟨e1, e2⟩ := y
    subst e1
    obtain ⟨v, h1, h2⟩ := (r.evz ev).get hd
    have := e2 xs (Same.tupS rs.zh (Same.tupS ev.same h))
    rw [h1] at this; cases this
    exact ⟨G, .refl, rs, h2, fun _ _ _ q => q⟩
theorem si_seq {f : Den D} (h : SE cls own X a f) : SI cls own X tg a (iSeq f) := by
  refine pi_imp (pi_seq h) fun σ H R q => ?_
  obtain ⟨G, al, m, ds, m', r, e, k⟩ := q
  obtain ⟨d, m1, e1, e⟩ := bind_ok e
  refine ⟨G, al, m, d, m1, r, e1, fun G1 al1 v H1 ev1 r1 dv => ?_⟩
  split at e
  · cases e
    cases dv with
    | lst h1 h2 => exact .inl ⟨_, rfl, ⟨_, .inl (.inl (r1.zh _ _ h1))⟩, k G1 al1 H1 _ ev1 r1 (walk_lst h1 h2)⟩
  · cases e
    cases dv with
    | tup h1 h2 => exact .inr ⟨_, rfl, ⟨_, Same.tupS r1.zh h1⟩, k G1 al1 H1 _ ev1 r1 (walk_tupD h1 h2)⟩
  · cases e
end
end MI

namespace MI
open PySem PySem.Spec L2

def rangeD (lo : Int) : Nat → List D
  | 0 => []
  | n + 1 => .int lo :: rangeD (lo + 1) n
theorem rangeD_len : ∀ (n : Nat) (lo : Int), (rangeD lo n).length = n
  | 0, _ => rfl
  | n + 1, lo => by rw [rangeD, List.length_cons, rangeD_len n]
theorem rangeD_get : ∀ (n : Nat) (lo : Int) (i : Nat), i < n → (rangeD lo n)[i]? = some (.int (lo + i))
  | 0, _, _, h => by omega
  | n + 1, lo, 0, _ => by rw [rangeD]; simp
  | n + 1, lo, i + 1, h => by
    rw [rangeD, List.getElem?_cons_succ, rangeD_get n (lo + 1) i (by omega)]
    congr 2
    omega
theorem walk_rng {K : KX} {cls : Nat → Addr} {own : Nat → Bool} {Gs : Gh} {als : List Addr} {lo : Int} {n : Nat} : WalkD K cls own (Itr lo n) (rangeD lo n) Gs als where
  goes := fun G al m σ H i ev rs hi => by rw [rangeD_len] at hi; exact hi
  stops := fun G al m σ H ev rs => by rw [rangeD_len]; exact Nat.le_refl n
  yields := fun G al m σ H i x H' d ev rs hd y => by
    obtain ⟨e1, e2⟩ := y
    subst e1
    have hi : i < n := by
      have := (List.getElem?_eq_some_iff.mp hd).1
      rw [rangeD_len] at this; exact this
    rw [rangeD_get n lo i hi] at hd
    cases hd
    subst e2
    exact ⟨G, .refl, rs, .int _, fun _ _ _ q => q⟩
def smallI (i : Int) : Bool := decide (-(2 ^ 62) ≤ i) && decide (i < 2 ^ 62)
def iRange1 (f : Den (List Hd)) : Den (List D) := f.bind fun hs => fun m => match looksV hs with
  | some [.int j] => if smallI j then .ok (rangeD 0 j.toNat) m else .bad
  | _ => .bad
def iRange2 (f : Den (List Hd)) : Den (List D) := f.bind fun hs => fun m => match looksV hs with
  | some [.int i, .int j] => if smallI i && smallI j then .ok (rangeD i (j - i).toNat) m else .bad
  | _ => .bad
theorem smallI_le {i : Int} (h : smallI i = true) : -(2 ^ 62) ≤ i ∧ i < 2 ^ 62 := by
  unfold smallI at h
  rw [Bool.and_eq_true] at h
  exact ⟨of_decide_eq_true h.1, of_decide_eq_true h.2⟩
section
variable {cls : Nat → Addr} {own : Nat → Bool} {X : Cx} {tg a b : Expr} {pos p : Pos} {fs : Den (List Hd)}
theorem si_range1 (hg : Gl X "range") (hm : X.mg "range" = none) (ha : SHs cls own X [a] fs) (hs : starEach [a] X.env = [(false, eval a X.env)] := by rfl) : SI cls own X tg (.Call (.Name "range" p) [a] [] pos) (iRange1 fs) := by
  refine pi_imp (pi_range1 hg hm ha hs) fun σ H R q => ?_
  obtain ⟨G, al, m, ds, m', r, e, k⟩ := q
  obtain ⟨hs, m1, e1, e⟩ := bind_ok e
  refine ⟨G, al, m, hs, m1, r, e1, fun G1 al1 v H1 ev1 r1 hv => ?_⟩
  split at e
  · next j l =>
    split at e
    · next hsm =>
      cases e
      have dv := looksV_dv hv l
      cases dv with
      | cons d1 d2 =>
        cases d2
        cases d1
        obtain ⟨s1, s2⟩ := smallI_le hsm
        exact ⟨j, rfl, s1, s2, k G1 al1 H1 (Itr 0 j.toNat) ev1 r1 walk_rng⟩
    · cases e
  · cases e
theorem si_range2 (hg : Gl X "range") (hm : X.mg "range" = none) (ha : SHs cls own X [a, b] fs) (hs : starEach [a, b] X.env = [(false, eval a X.env), (false, eval b X.env)] := by rfl) (hs2 : starEach [b] X.env = [(false, eval b X.env)] := by rfl) :
    SI cls own X tg (.Call (.Name "range" p) [a, b] [] pos) (iRange2 fs) := by
  refine pi_imp (pi_range2 hg hm ha hs hs2) fun σ H R q => ?_
  obtain ⟨G, al, m, ds, m', r, e, k⟩ := q
  obtain ⟨hs, m1, e1, e⟩ := bind_ok e
  refine ⟨G, al, m, hs, m1, r, e1, fun G1 al1 v H1 ev1 r1 hv => ?_⟩
  split at e
  · next i j l =>
    split at e
    · next hsm =>
      cases e
      have dv := looksV_dv hv l
      cases dv with
      | cons d1 d2 =>
        cases d2 with
        | cons d2 d3 =>
          cases d3
          cases d1
          cases d2
          rw [Bool.and_eq_true] at hsm
          obtain ⟨s1, s2⟩ := smallI_le hsm.1
          obtain ⟨s3, s4⟩ := smallI_le hsm.2
          exact ⟨i, j, rfl, ⟨s1, s2, s3, s4⟩, k G1 al1 H1 _ ev1 r1 walk_rng⟩
    · cases e
  · cases e
end

/-! ### for -/
def loopD (tg : Tg) (body : Den Fl) : List D → Den Fl
  | [] => .ret .nx
  | d :: ds => fun m => match tgSet tg d m.sl with
    | none => .bad
    | some sl => match body { m with sl := sl } with
      | .ok .nx m2 => loopD tg body ds m2
      | .ok .ct m2 => loopD tg body ds m2
      | .ok .bk m2 => .ok .nx m2
      | .ok (.rt d) m2 => .ok (.rt d) m2
      | .bad => .bad
def sFor (src : Den (List D)) (tg : Tg) (body : Den Fl) : Den Fl := src.bind fun ds => loopD tg body ds
section
variable {cls : Nat → Addr} {own : Nat → Bool} {X : Cx} {te a b : Expr} {pos : Pos} {src : Den (List D)} {tg : Tg} {body : Den Fl} {sts : List Stmt}
theorem ss_for (hp : PassesOwn (model X.prog X.w) X.A X.env X.xe) (hc : X.calm = true) (hi : SI cls own X te a src) (hg : SG cls own X te tg) (hb : SSs cls own X sts body)
    (hs : ∀ x, foldedSetIterable a X.env x = pure x := by intro _; rfl) : SS cls own X (.For te a sts [] pos) (sFor src tg body) := by
  refine ps_imp (ps_for hp hc hi hg hb hs) fun E σ H q => ?_
  obtain ⟨G, al, m, fl, m', r, e, k⟩ := q
  obtain ⟨ds, m1, e1, e⟩ := bind_ok e
  refine ⟨G, al, m, ds, m1, r, e1, fun G1 al1 H1 J ev1 r1 wk => ?_⟩
  refine ⟨fun i n σ H => n = ds.length - i ∧ i ≤ ds.length ∧ ∃ G2 al2 m2, Ev G1 al1 G2 al2 ∧ Rst X.kx cls own G2 al2 m2 σ H ∧ loopD tg body (ds.drop i) m2 = .ok fl m', ⟨ds.length, rfl, Nat.zero_le _, G1, al1, m1, .refl, r1, e⟩, ?_⟩
  rintro i n σ2 H2 ⟨rfl, hi, G2, al2, m2, ev2, r2, e2⟩
  by_cases hlt : i < ds.length
  · refine .inr ⟨wk.goes G2 al2 m2 σ2 H2 i ev2.z r2 hlt, fun σ3 H3 => ∃ G3 al3 m3, Ev G1 al1 G3 al3 ∧ Rst X.kx cls own G3 al3 m3 σ3 H3 ∧ loopD tg body (ds.drop (i + 1)) m3 = .ok fl m', fun σ3 H3 q3 => ⟨ds.length - (i + 1), by omega, rfl, hlt, q3⟩, fun x H3 y => ?_⟩
    have hd : ds[i]? = some ds[i] := List.getElem?_eq_getElem hlt
    obtain ⟨G3, ev3, r3, dv, _⟩ := wk.yields G2 al2 m2 σ2 H2 i x H3 _ ev2.z r2 hd y
    rw [List.drop_eq_getElem_cons hlt, loopD] at e2
    dsimp only at e2
    split at e2
    · cases e2
    · next sl e3 =>
      refine ⟨G3, al2, m2, _, sl, r3, dv, e3, fun σ4 r4 _ => ?_⟩
      split at e2
      · next m5 e5 => exact ⟨G3, al2, _, .nx, m5, r4, e5, fun G6 al6 σ6 H6 ev6 r6 => ⟨G6, al6, m5, (ev2.trans ev3).trans ev6, r6, e2⟩⟩
      · next m5 e5 => exact ⟨G3, al2, _, .ct, m5, r4, e5, fun G6 al6 σ6 H6 ev6 r6 => ⟨G6, al6, m5, (ev2.trans ev3).trans ev6, r6, e2⟩⟩
      · next m5 e5 =>
        cases e2
        exact ⟨G3, al2, _, .bk, _, r4, e5, fun G6 al6 σ6 H6 ev6 r6 => k G6 al6 σ6 H6 (ev1.trans ((ev2.trans ev3).trans ev6)) r6⟩
      · next d5 m5 e5 =>
        cases e2
        exact ⟨G3, al2, _, .rt d5, _, r4, e5, fun G6 al6 σ6 H6 ev6 r6 => k G6 al6 σ6 H6 (ev1.trans ((ev2.trans ev3).trans ev6)) r6⟩
      · cases e2
  · have en : i = ds.length := by omega
    subst en
    rw [List.drop_length] at e2
    cases e2
    exact .inl ⟨wk.stops G2 al2 _ σ2 H2 ev2.z r2, k G2 al2 σ2 H2 (ev1.trans ev2) r2⟩

theorem iteT' {p q : Prop} (h : p) : if true = true then p else q := h
theorem iteF' {p q : Prop} (h : q) : if false = true then p else q := h
/-! ### while -/
def sWhile (c : Den Bool) (body : Den Fl) : Nat → Den Fl
  | 0 => fun _ => .bad
  | n + 1 => fun m => match c m with
    | .ok true m1 => match body m1 with
      | .ok .nx m2 => sWhile c body n m2
      | .ok .ct m2 => sWhile c body n m2
      | .ok .bk m2 => .ok .nx m2
      | .ok (.rt d) m2 => .ok (.rt d) m2
      | .bad => .bad
    | .ok false m1 => .ok .nx m1
    | .bad => .bad
theorem ss_while {fc : Den Bool} {n : Nat} (hp : PassesOwn (model X.prog X.w) X.A X.env X.xe) (hc : SB cls own X a fc) (hb : SSs cls own X sts body) : SS cls own X (.While a sts [] pos) (sWhile fc body n) := by
  refine ps_imp (ps_while hp hc hb) fun E σ H q => ?_
  obtain ⟨G, al, m, fl, m', r, e, k⟩ := q
  refine ⟨fun n σ H => ∃ G2 al2 m2, Ev G al G2 al2 ∧ Rst X.kx cls own G2 al2 m2 σ H ∧ sWhile fc body n m2 = .ok fl m', ⟨n, G, al, m, .refl, r, e⟩, ?_⟩
  rintro n σ2 H2 ⟨G2, al2, m2, ev2, r2, e2⟩
  cases n with
  | zero => cases e2
  | succ n =>
    rw [sWhile] at e2
    dsimp only at e2
    split at e2
    · next m3 e3 =>
      refine ⟨G2, al2, m2, true, m3, r2, e3, fun G3 al3 H3 ev3 r3 => ?_⟩
      refine iteT' ?_
      refine ⟨fun σ4 H4 => ∃ G4 al4 m4, Ev G al G4 al4 ∧ Rst X.kx cls own G4 al4 m4 σ4 H4 ∧ sWhile fc body n m4 = .ok fl m', fun σ4 H4 q4 => ⟨n, Nat.lt_succ_self n, q4⟩, ?_⟩
      split at e2
      · next m5 e5 => exact ⟨G3, al3, m3, .nx, m5, r3, e5, fun G6 al6 σ6 H6 ev6 r6 => ⟨G6, al6, m5, (ev2.trans ev3).trans ev6, r6, e2⟩⟩
      · next m5 e5 => exact ⟨G3, al3, m3, .ct, m5, r3, e5, fun G6 al6 σ6 H6 ev6 r6 => ⟨G6, al6, m5, (ev2.trans ev3).trans ev6, r6, e2⟩⟩
      · next m5 e5 =>
        cases e2
        exact ⟨G3, al3, m3, .bk, _, r3, e5, fun G6 al6 σ6 H6 ev6 r6 => k G6 al6 σ6 H6 ((ev2.trans ev3).trans ev6) r6⟩
      · next d5 m5 e5 =>
        cases e2
        exact ⟨G3, al3, m3, .rt d5, _, r3, e5, fun G6 al6 σ6 H6 ev6 r6 => k G6 al6 σ6 H6 ((ev2.trans ev3).trans ev6) r6⟩
      · cases e2
    · next m3 e3 =>
      cases e2
      refine ⟨G2, al2, m2, false, _, r2, e3, fun G3 al3 H3 ev3 r3 => ?_⟩
      refine iteF' ?_
      exact k G3 al3 σ2 H3 (ev2.trans ev3) r3
    · cases e2
end
end MI

namespace MI
open PySem PySem.Spec L2

def wipeM (sl : List (Option D)) : List Nat → List (Option D)
  | [] => sl
  | v :: vs => (wipeM sl vs).set v none
/-- the slots vs as in old, all others as in cur -/
def backM (old cur : List (Option D)) : List Nat → List (Option D)
  | [] => cur
  | v :: vs => (backM old cur vs).set v (old.getD v none)
theorem wipeM_len (sl : List (Option D)) : ∀ vs, (wipeM sl vs).length = sl.length
  | [] => rfl
  | v :: vs => by rw [wipeM, List.length_set, wipeM_len sl vs]
theorem wipeM_get {sl : List (Option D)} {i : Nat} {d : D} : ∀ {vs : List Nat}, (wipeM sl vs)[i]? = some (some d) → sl[i]? = some (some d) ∧ i ∉ vs
  | [], h => ⟨h, by simp⟩
  | v :: vs, h => by
    rw [wipeM] at h
    rcases getSet h with ⟨_, _, e⟩ | ⟨ne, h⟩
    · cases e
    · obtain ⟨h1, h2⟩ := wipeM_get h
      exact ⟨h1, by simp [ne, h2]⟩
theorem wipe_get (σ : St) {i : Nat} : ∀ {vs : List Nat}, i ∉ vs → (wipe σ vs)[i]? = σ[i]?
  | [], _ => rfl
  | v :: vs, h => by
    rw [wipe, List.getElem?_set_ne (by intro e; exact h (by simp [e]))]
    exact wipe_get σ (by intro e; exact h (by simp [e]))
theorem backM_len (old cur : List (Option D)) : ∀ vs, (backM old cur vs).length = cur.length
  | [] => rfl
  | v :: vs => by rw [backM, List.length_set, backM_len old cur vs]
theorem backM_get {old cur : List (Option D)} {i : Nat} {d : D} : ∀ {vs : List Nat}, (backM old cur vs)[i]? = some (some d) → (i ∈ vs ∧ old[i]? = some (some d)) ∨ (i ∉ vs ∧ cur[i]? = some (some d))
  | [], h => .inr ⟨by simp, h⟩
  | v :: vs, h => by
    rw [backM] at h
    rcases getSet h with ⟨rfl, _, e⟩ | ⟨ne, h⟩
    · refine .inl ⟨by simp, ?_⟩
      rw [List.getD_eq_getElem?_getD] at e
      cases q : old[i]? with
      | none => rw [q] at e; cases e
      | some x => rw [q] at e; cases e; rfl
    · rcases backM_get h with ⟨h1, h2⟩ | ⟨h1, h2⟩
      · exact .inl ⟨by simp [h1], h2⟩
      · exact .inr ⟨by simp [ne, h1], h2⟩
theorem wipe_eq {σ σ2 : St} : ∀ {vs ws : List Nat}, (∀ j ∈ ws, j ∈ vs) → Beside ws (wipe σ vs) σ2 → wipe σ2 vs = wipe σ vs := by
  intro vs ws hsub hb
  have hw : ∀ (vs : List Nat) (σ : St) (i : Nat), i ∈ vs → (wipe σ vs)[i]? = if i < σ.length then some none else none := by
    intro vs
    induction vs with
    | nil => intro σ i h; cases h
    | cons v vs ih =>
      intro σ i h
      rw [wipe]
      by_cases e : v = i
      · subst e
        by_cases hl : v < σ.length
        · rw [List.getElem?_set_self (by rw [wipe_length]; exact hl), if_pos hl]
        · rw [List.getElem?_eq_none (by rw [List.length_set, wipe_length]; omega), if_neg hl]
      · rw [List.getElem?_set_ne e]
        exact ih σ i (by rcases List.mem_cons.mp h with z | z; exact absurd z.symm e; exact z)
  apply List.ext_getElem?
  intro i
  by_cases hi : i ∈ vs
  · rw [hw vs σ2 i hi, hw vs σ i hi, hb.1, wipe_length]
  · rw [wipe_get σ2 hi, hb.2 i (fun h => hi (hsub i h))]
section
variable {K : KX} {cls : Nat → Addr} {own : Nat → Bool} {G : Gh} {al : List Addr} {m : MS} {σ : St} {H : Hp}
theorem Rst.wipe {vs : List Nat} (r : Rst K cls own G al m σ H) : Rst K cls own G al { m with sl := wipeM m.sl vs } (L2.wipe σ vs) H := by
  refine ⟨r.hst, by rw [wipe_length, wipeM_len]; exact r.len, fun i d e ho => ?_, fun i d e ho => ?_⟩
  · obtain ⟨e1, n⟩ := wipeM_get e
    rw [wipe_get σ n]
    exact r.val i d e1 ho
  · obtain ⟨e1, n⟩ := wipeM_get e
    rw [wipe_get σ n]
    exact r.own i d e1 ho
/-- behind a comprehension -/
theorem Rst.back {vs : List Nat} {G' : Gh} {al' : List Addr} {m' : MS} {H' : Hp} (r : Rst K cls own G al m σ H) (ev : Ev G al G' al') (r' : Rst K cls own G' al' { m' with sl := wipeM m'.sl vs } (L2.wipe σ vs) H') (hv : ∀ i ∈ vs, own i = false) :
    Rst K cls own G' al' { m' with sl := backM m.sl m'.sl vs } σ H' := by
  have hl : m'.sl.length = σ.length := by
    have := r'.len
    rw [wipe_length, wipeM_len] at this
    exact this.symm
  have keep : ∀ {i d}, i ∉ vs → m'.sl[i]? = some (some d) → (wipeM m'.sl vs)[i]? = some (some d) := by
    intro i d hi h
    have : ∀ ws : List Nat, i ∉ ws → (wipeM m'.sl ws)[i]? = m'.sl[i]? := by
      intro ws
      induction ws with
      | nil => intro _; rfl
      | cons w ws ih =>
        intro hw
        rw [wipeM, List.getElem?_set_ne (by intro e; exact hw (by simp [e])), ih (by intro e; exact hw (by simp [e]))]
    rw [this vs hi]; exact h
  refine ⟨r'.hst, by rw [backM_len]; exact hl.symm, fun i d e ho => ?_, fun i d e ho => ?_⟩
  · rcases backM_get e with ⟨h1, h2⟩ | ⟨h1, h2⟩
    · obtain ⟨v, q1, q2⟩ := r.val i d h2 ho
      exact ⟨v, q1, q2.ev ev⟩
    · obtain ⟨v, q1, q2⟩ := r'.val i d (keep h1 h2) ho
      rw [wipe_get σ h1] at q1
      exact ⟨v, q1, q2⟩
  · rcases backM_get e with ⟨h1, h2⟩ | ⟨h1, h2⟩
    · rw [hv i h1] at ho; cases ho
    · obtain ⟨a, o, q1, q2, q3⟩ := r'.own i d (keep h1 h2) ho
      rw [wipe_get σ h1] at q1
      exact ⟨a, o, q1, q2, q3⟩
/-- what is built stands in the frame's part -/
theorem Rst.reframe {D0 : Addr} {o o' : HO} (r : Rst K cls own G al m σ H) (h : G D0 = some (.frm, o)) : Ev G al G al ∧ Rst K cls own (putG G D0 .frm o') al m σ (upd H D0 o') ∧ Zof (putG G D0 .frm o') = Zof G := by
  have hz : Zof (putG G D0 .frm o') = Zof G := by
    funext b
    unfold Zof
    by_cases e : b = D0
    · subst e; rw [putG_same, h]
    · rw [putG_ne e]
  have ne : ∀ {b t u}, G b = some (t, u) → t ≠ .frm → b ≠ D0 := fun e q z => by subst z; rw [h] at e; cases e; exact q rfl
  refine ⟨.refl, ⟨⟨fun b t u e => ?_, r.hst.len, fun n ob e => ?_⟩, r.len, fun i d e ho => ?_, fun i d e ho => ?_⟩, hz⟩
  · by_cases hb : b = D0
    · subst hb; rw [putG_same] at e; cases e; exact upd_same
    · rw [putG_ne hb] at e; rw [upd_ne hb]; exact r.hst.gh b t u e
  · obtain ⟨b, h1, h2⟩ := r.hst.sto n ob e
    refine ⟨b, h1, ?_⟩
    unfold SO at h2 ⊢
    cases ob with
    | lst ds =>
      obtain ⟨xs, e1, r1⟩ := h2
      rw [hz]
      exact ⟨xs, by rw [putG_ne (ne e1 (by intro z; cases z))]; exact e1, r1⟩
    | ins c fs => exact h2
  · rw [hz]; exact r.val i d e ho
  · obtain ⟨a, ob, h1, h2, h3⟩ := r.own i d e ho
    rw [hz]
    exact ⟨a, ob, h1, by rw [putG_ne (ne h2 (by intro z; cases z))]; exact h2, h3⟩
def delG (G : Gh) (a : Addr) : Gh := fun b => if b = a then none else G b
theorem delG_same {a : Addr} : delG G a a = none := by unfold delG; rw [if_pos rfl]
theorem delG_ne {a b : Addr} (h : b ≠ a) : delG G a b = G b := by unfold delG; rw [if_neg h]
theorem Rst.unframe {D0 : Addr} {o : HO} (r : Rst K cls own G al m σ H) (h : G D0 = some (.frm, o)) : Rst K cls own (delG G D0) al m σ H ∧ Zof (delG G D0) = Zof G := by
  have hz : Zof (delG G D0) = Zof G := by
    funext b
    unfold Zof
    by_cases e : b = D0
    · subst e; rw [delG_same, h]
    · rw [delG_ne e]
  have ne : ∀ {b t u}, G b = some (t, u) → t ≠ .frm → b ≠ D0 := fun e q z => by subst z; rw [h] at e; cases e; exact q rfl
  refine ⟨⟨⟨fun b t u e => ?_, r.hst.len, fun n ob e => ?_⟩, r.len, fun i d e ho => ?_, fun i d e ho => ?_⟩, hz⟩
  · by_cases hb : b = D0
    · subst hb; rw [delG_same] at e; cases e
    · rw [delG_ne hb] at e; exact r.hst.gh b t u e
  · obtain ⟨b, h1, h2⟩ := r.hst.sto n ob e
    refine ⟨b, h1, ?_⟩
    unfold SO at h2 ⊢
    cases ob with
    | lst ds =>
      obtain ⟨xs, e1, r1⟩ := h2
      rw [hz]
      exact ⟨xs, by rw [delG_ne (ne e1 (by intro z; cases z))]; exact e1, r1⟩
    | ins c fs => exact h2
  · rw [hz]; exact r.val i d e ho
  · obtain ⟨a, ob, h1, h2, h3⟩ := r.own i d e ho
    rw [hz]
    exact ⟨a, ob, h1, by rw [delG_ne (ne h2 (by intro z; cases z))]; exact h2, h3⟩
end

def lcLoop (vs : List Nat) (tg : Tg) (tt : Den Bool) (te : Den D) : List D → Den (List D)
  | [] => .ret []
  | d :: ds => fun m => match tgSet tg d (wipeM m.sl vs) with
    | none => .bad
    | some sl => match tt { m with sl := sl } with
      | .ok true m2 => match te m2 with
        | .ok y m3 => match lcLoop vs tg tt te ds m3 with
          | .ok ys m4 => .ok (y :: ys) m4
          | .bad => .bad
        | .bad => .bad
      | .ok false m2 => lcLoop vs tg tt te ds m2
      | .bad => .bad
def eLc (src : Den (List D)) (vs : List Nat) (tg : Tg) (tt : Den Bool) (te : Den D) : Den D := src.bind fun ds => fun m => match lcLoop vs tg tt te ds m with
  | .ok ys m' => if fitL ys.length then .ok (.lst ys) { m' with sl := backM m.sl m'.sl vs } else .bad
  | .bad => .bad
abbrev SBs (cls : Nat → Addr) (own : Nat → Bool) (X : Cx) (es : List Expr) (f : Den Bool) : Prop := PTs X es (tDb X.kx cls own f)
theorem pts_imp {X : Cx} {e : List Expr} {t t' : TT} (h : PTs X e t) (i : ∀ σ H Q, t' σ H Q → t σ H Q) : PTs X e t' := ⟨fun pins s σ H Q I q => h.run pins s σ H Q I (i σ H Q q)⟩
theorem sbs_nil {cls : Nat → Addr} {own : Nat → Bool} {X : Cx} : SBs cls own X [] (.ret true) := pts_imp pts_nil fun σ H Q ⟨G, al, m, d, m', r, e, k⟩ => by cases e; exact k G al H .refl r
theorem sbs_one {cls : Nat → Addr} {own : Nat → Bool} {X : Cx} {c : Expr} {f : Den Bool} (h : SB cls own X c f) : SBs cls own X [c] f := pts_one h
section
variable {cls : Nat → Addr} {own : Nat → Bool} {X : Cx} {K : KX} {src : Den (List D)} {tg : Tg} {ft : Den Bool} {fe : Den D} {vs : List Nat}
theorem tLc_of (hv : ∀ i ∈ vs, own i = false) (hsub : ∀ j ∈ tgSlots tg, j ∈ vs) {σ : St} {H : Hp} {Q : VK} (q : tF K cls own (eLc src vs tg ft fe) σ H Q) :
    tLc (tI K cls own src) (tG K cls own tg) (tDb K cls own ft) (tD K cls own fe) vs σ H Q := by
  obtain ⟨G, al, m, d, m', r, e, k⟩ := q
  obtain ⟨ds, m1, e1, e⟩ := bind_ok e
  split at e
  case h_2 => cases e
  next ys m9 e9 =>
  split at e
  case isFalse => cases e
  next hfit =>
  cases e
  refine ⟨G, al, m, ds, m1, r, e1, fun G1 al1 H1 J ev1 r1 wk D0 hD => ?_⟩
  have hn : G1 D0 = none := r1.hst.nog hD
  have nG1 : ∀ {b x}, G1 b = some x → b ≠ D0 := fun e z => by subst z; rw [hn] at e; cases e
  -- the invariant: what is built so far, the rest to come
  let W : Nat → Nat → Hp → Prop := fun i n H => n = ds.length - i ∧ i ≤ ds.length ∧ ∃ G2 al2 m2 acc accD zs, Ev G1 al1 (delG G2 D0) al2 ∧ Rst K cls own G2 al2 { m2 with sl := wipeM m2.sl vs } (wipe σ vs) H ∧ G2 D0 = some (.frm, .lst acc) ∧
    DVs K (Zof G2) al2 acc accD ∧ lcLoop vs tg ft fe (ds.drop i) m2 = .ok zs m9 ∧ accD ++ zs = ys
  refine ⟨W, ⟨ds.length, rfl, Nat.zero_le _, putG G1 D0 .frm (.lst []), al1, m1, [], [], ys, ?_, ?_, putG_same, .nil, e9, rfl⟩, ?_⟩
  · have : delG (putG G1 D0 .frm (.lst [])) D0 = G1 := by
      funext b
      by_cases e : b = D0
      · subst e; rw [delG_same, hn]
      · rw [delG_ne e, putG_ne e]
    rw [this]; exact .refl
  · exact ((r1.wipe (vs := vs)).fresh hD).tag hn upd_same
  rintro i n H2 ⟨rfl, hi, G2, al2, m2, acc, accD, zs, ev2, r2, g2, c2, e2, ez⟩
  have evG : Ev G1 al1 G2 al2 := ⟨fun a o e => by have := ev2.frz a o e; rw [delG_ne (nG1 e)] at this; exact this, fun a o e => by have := ev2.frm a o e; rw [delG_ne (nG1 e)] at this; exact this, ev2.al⟩
  by_cases hlt : i < ds.length
  · refine .inr ⟨wk.goes G2 al2 _ _ H2 i evG.z r2 hlt, W (i + 1) (ds.length - (i + 1)), fun H3 q3 => ⟨_, by omega, q3⟩, fun x H3 y => ?_⟩
    have hd : ds[i]? = some ds[i] := List.getElem?_eq_getElem hlt
    obtain ⟨G3, ev3, r3, dv, keep3⟩ := wk.yields G2 al2 _ _ H2 i x H3 _ evG.z r2 hd y
    have g3 : G3 D0 = some (.frm, .lst acc) := ev3.frm _ _ g2
    rw [List.drop_eq_getElem_cons hlt, lcLoop] at e2
    dsimp only at e2
    split at e2
    · cases e2
    · next sl e3 =>
      refine ⟨G3, al2, _, _, sl, r3, dv, e3, fun σ4 r4 b4 => ⟨wipe_eq hsub b4, ?_⟩⟩
      have weq : wipe σ4 vs = wipe σ vs := by
        have := wipe_eq (σ := σ) hsub b4
        exact this
      split at e2
      · next m5 e5 =>
        refine ⟨G3, al2, _, true, m5, r4, e5, fun G5 al5 H5 ev5 r5 => iteT' ?_⟩
        split at e2
        · next y5 m6 e6 =>
          split at e2
          · next ys6 m7 e7 =>
            cases e2
            refine ⟨G5, al5, m5, y5, m6, r5, e6, fun G6 al6 v6 H6 ev6 r6 dv6 => ?_⟩
            have g6 : G6 D0 = some (.frm, .lst acc) := ev6.frm _ _ (ev5.frm _ _ g3)
            have evs : Ev G2 al2 G6 al6 := ev3.trans (ev5.trans ev6)
            have c6 : DVs K (Zof G6) al6 acc accD := c2.ev evs
            have hlen : acc.length < sizeLine := by
              have h1 := c2.length
              have h2 : ys.length ≤ sizeLine := fitL_le hfit
              have h3 := congrArg List.length ez
              simp only [List.length_append, List.length_cons] at h3
              omega
            obtain ⟨_, r7, hz7⟩ := r6.reframe (o' := .lst (acc ++ [v6])) g6
            refine ⟨acc, r6.hst.gh _ _ _ g6, hlen, rfl, hlt, putG G6 D0 .frm (.lst (acc ++ [v6])), al6, m6, acc ++ [v6], accD ++ [y5], ys6, ?_, ?_, putG_same, ?_, e7, by rw [← ez]; simp⟩
            · have : delG (putG G6 D0 .frm (.lst (acc ++ [v6]))) D0 = delG G6 D0 := by
                funext b
                by_cases e : b = D0
                · subst e; rw [delG_same, delG_same]
                · rw [delG_ne e, putG_ne e, delG_ne e]
              rw [this]
              refine ⟨fun a o e => ?_, fun a o e => ?_, evG.al.trans evs.al⟩
              · rw [delG_ne (nG1 e)]; exact evs.frz _ _ (evG.frz _ _ e)
              · rw [delG_ne (nG1 e)]; exact evs.frm _ _ (evG.frm _ _ e)
            · have := r7.wipe (vs := vs)
              rw [weq] at this
              exact this
            · rw [hz7]; exact c6.append (.cons dv6 .nil)
          · cases e2
        · cases e2
      · next m5 e5 =>
        refine ⟨G3, al2, _, false, m5, r4, e5, fun G5 al5 H5 ev5 r5 => iteF' ?_⟩
        have evs : Ev G2 al2 G5 al5 := ev3.trans ev5
        refine ⟨rfl, hlt, G5, al5, m5, acc, accD, zs, ?_, ?_, ev5.frm _ _ g3, c2.ev evs, e2, ez⟩
        · refine ⟨fun a o e => ?_, fun a o e => ?_, evG.al.trans evs.al⟩
          · rw [delG_ne (nG1 e)]; exact evs.frz _ _ (evG.frz _ _ e)
          · rw [delG_ne (nG1 e)]; exact evs.frm _ _ (evG.frm _ _ e)
        · have := r5.wipe (vs := vs)
          rw [weq] at this
          exact this
      · cases e2
  · have en : i = ds.length := by omega
    subst en
    rw [List.drop_length] at e2
    cases e2
    have ez : accD = ys := by rw [← ez]; simp
    subst ez
    refine .inl ⟨wk.stops G2 al2 _ _ H2 evG.z r2, ?_⟩
    obtain ⟨r3, hz3⟩ := r2.unframe g2
    have rb := r1.back ev2 r3 hv
    exact k (delG G2 D0) al2 D0 (.lst acc) H2 (ev1.trans ev2) rb (r2.hst.gh _ _ _ g2) delG_same (by rw [hz3]; exact c2)
end
section
variable {cls : Nat → Addr} {own : Nat → Bool} {X : Cx} {elt te iter : Expr} {ifs : List Expr} {scope : Scope} {ow : List (Str × Nat)} {pos : Pos} {src : Den (List D)} {tg : Tg} {ft : Den Bool} {fe : Den D}
theorem sf_lc (hc : X.calm = true) (hN : X.N.Nodup) (hi : SI cls own X te iter src) (ok : BlkOk X.N X.env.scope scope ow)
    (hg : ∀ (s : Shared) (H : Hp) (C : Addr) (cl : List (Str × Addr)) (fp : List Addr), SG cls own (X.blk s H scope (compEnvC scope cl C X.env) fp) te tg)
    (ht : ∀ (s : Shared) (H : Hp) (C : Addr) (cl : List (Str × Addr)) (fp : List Addr), SBs cls own (X.blk s H scope (compEnvC scope cl C X.env) fp) ifs ft)
    (he : ∀ (s : Shared) (H : Hp) (C : Addr) (cl : List (Str × Addr)) (fp : List Addr), SE cls own (X.blk s H scope (compEnvC scope cl C X.env) fp) elt fe)
    (hv : ∀ i ∈ ow.map (·.2), own i = false) (hsub : ∀ j ∈ tgSlots tg, j ∈ ow.map (·.2)) (hs : ∀ x, foldedSetIterable iter X.env x = pure x := by intro _; rfl) :
    SF cls own X (.ListComp elt [⟨te, iter, ifs, 0⟩] scope pos) (eLc src (ow.map (·.2)) tg ft fe) :=
  pe_imp (pe_lc (own := ow) hc hN hi ok hg ht he hs) fun _ _ _ q => tLc_of hv hsub q
end
end MI

namespace MI
open PySem PySem.Spec L2
section
variable {cls : Nat → Addr} {own : Nat → Bool} {X : Cx} {elt te iter : Expr} {ifs : List Expr} {scope : Scope} {ow : List (Str × Nat)} {pos py spos : Pos} {src : Den (List D)} {tg : Tg} {ft : Den Bool} {fe : Den D} {i : Nat} {y : Str}
theorem ss_setLc (ho : own i = false) (hc : X.calm = true) (hN : X.N.Nodup) (hy : X.N[i]? = some y) (hyl : X.env.scope.names.lookup y = some .local)
    (hsw : swapsWith (.ListComp elt [⟨te, iter, ifs, 0⟩] scope pos) (some (.Name y py)) spos.line X.env = pure true) (hi : SI cls own X te iter src) (ok : BlkOk X.N X.env.scope scope ow)
    (hg : ∀ (s : Shared) (H : Hp) (C : Addr) (cl : List (Str × Addr)) (fp : List Addr), SG cls own (X.blk s H scope (compEnvC scope cl C X.env) fp) te tg)
    (ht : ∀ (s : Shared) (H : Hp) (C : Addr) (cl : List (Str × Addr)) (fp : List Addr), SBs cls own (X.blk s H scope (compEnvC scope cl C X.env) fp) ifs ft)
    (he : ∀ (s : Shared) (H : Hp) (C : Addr) (cl : List (Str × Addr)) (fp : List Addr), SE cls own (X.blk s H scope (compEnvC scope cl C X.env) fp) elt fe)
    (hv : ∀ i ∈ ow.map (·.2), own i = false) (hsub : ∀ j ∈ tgSlots tg, j ∈ ow.map (·.2)) (hs : ∀ x, foldedSetIterable iter X.env x = pure x := by intro _; rfl) :
    SS cls own X (.Assign [.Name y py] (.ListComp elt [⟨te, iter, ifs, 0⟩] scope pos) spos) (sSet i (eLc src (ow.map (·.2)) tg ft fe)) := by
  refine ps_imp (ps_setLc (own := ow) (g := tG X.kx cls own tg) (tt := tDb X.kx cls own ft) (te := tD X.kx cls own fe) hc hN hy hyl hsw hi ok hg ht he hs) fun E σ H q => ?_
  obtain ⟨G, al, m, fl, m', r, e, k⟩ := q
  obtain ⟨d, m1, e1, e⟩ := bind_ok e
  cases e
  refine tLc_of hv hsub ⟨G, al, m, d, m1, r, e1, fun G1 al1 p o H1 ev1 r1 hp hn c => ?_⟩
  have ev2 : Ev G1 al1 (putG G1 p .frz o) al1 := ev_put hn
  exact k _ al1 _ H1 (ev1.trans ev2) ((r1.tag hn hp).set (CO.frz (zof_of putG_same) (c.mono ev2.same ev2.al)) ho)
theorem ss_ownLc (ho : own i = true) (hc : X.calm = true) (hN : X.N.Nodup) (hy : X.N[i]? = some y) (hyl : X.env.scope.names.lookup y = some .local)
    (hsw : swapsWith (.ListComp elt [⟨te, iter, ifs, 0⟩] scope pos) (some (.Name y py)) spos.line X.env = pure true) (hi : SI cls own X te iter src) (ok : BlkOk X.N X.env.scope scope ow)
    (hg : ∀ (s : Shared) (H : Hp) (C : Addr) (cl : List (Str × Addr)) (fp : List Addr), SG cls own (X.blk s H scope (compEnvC scope cl C X.env) fp) te tg)
    (ht : ∀ (s : Shared) (H : Hp) (C : Addr) (cl : List (Str × Addr)) (fp : List Addr), SBs cls own (X.blk s H scope (compEnvC scope cl C X.env) fp) ifs ft)
    (he : ∀ (s : Shared) (H : Hp) (C : Addr) (cl : List (Str × Addr)) (fp : List Addr), SE cls own (X.blk s H scope (compEnvC scope cl C X.env) fp) elt fe)
    (hv : ∀ i ∈ ow.map (·.2), own i = false) (hsub : ∀ j ∈ tgSlots tg, j ∈ ow.map (·.2)) (hs : ∀ x, foldedSetIterable iter X.env x = pure x := by intro _; rfl) :
    SS cls own X (.Assign [.Name y py] (.ListComp elt [⟨te, iter, ifs, 0⟩] scope pos) spos) (sSet i (eLc src (ow.map (·.2)) tg ft fe)) := by
  refine ps_imp (ps_setLc (own := ow) (g := tG X.kx cls own tg) (tt := tDb X.kx cls own ft) (te := tD X.kx cls own fe) hc hN hy hyl hsw hi ok hg ht he hs) fun E σ H q => ?_
  obtain ⟨G, al, m, fl, m', r, e, k⟩ := q
  obtain ⟨d, m1, e1, e⟩ := bind_ok e
  cases e
  exact tLc_of hv hsub ⟨G, al, m, d, m1, r, e1, fun G1 al1 p o H1 ev1 r1 hp hn c => k _ al1 _ H1 (ev1.trans (ev_put hn)) (r1.setOwn hp hn c ho)⟩
end

/-! ### defs -/
abbrev Fn := List D → Sto → Option (D × Sto)
def runFn (n : Nat) (body : Den Fl) : Fn := fun ds st => match body ⟨ds.map some ++ List.replicate (n - ds.length) none, st⟩ with
  | .ok (.rt d) m => some (d, m.st)
  | .ok .nx m => some (.non, m.st)
  | _ => none
/-- a def's promise: it does what fn does -/
def SpD (K : KX) (cls : Nat → Addr) (np : Nat) (fn : Fn) : Sp := fun vs H Q _ => vs.length = np ∧ ∃ G al ds st d st', Hst K cls G al st H ∧ DVs K (Zof G) al vs ds ∧ fn ds st = some (d, st') ∧
  ∀ G' al' v H', Ev G al G' al' → Hst K cls G' al' st' H' → DV K (Zof G') al' v d → Q v H'
theorem start_get {ds : List D} {n i : Nat} {d : D} (h : (ds.map some ++ List.replicate n (none : Option D))[i]? = some (some d)) : ds[i]? = some d := by
  by_cases hi : i < ds.length
  · rw [List.getElem?_append_left (by simpa using hi), List.getElem?_map] at h
    cases q : ds[i]? with
    | none => rw [q] at h; cases h
    | some x => rw [q] at h; cases h; rfl
  · rw [List.getElem?_append_right (by simpa using hi)] at h
    obtain ⟨_, e⟩ := List.getElem?_eq_some_iff.mp h
    rw [List.getElem_replicate] at e
    cases e
section
variable {cls : Nat → Addr} {own : Nat → Bool} {P : Program} {w : World} {K : PySem.W.Frag} {mg : Str → Option Value} {base : Heap} {x qual : Str} {params : Arguments} {body : List Stmt} {scope : Scope} {dvs : List V} {kws : List (Str × V)} {f : Addr} {fd : FuncData}
/-- a def keeps what its body's denotation says -/
theorem fn_ok {N ps : List Str} {k : Nat} {den : Den Fl} (F : FunD K x qual params body scope dvs kws f fd) (S : FnScope N ps scope) (hop : ∀ i, i < ps.length → own i = false)
    (hb : ∀ (cdv : Value) (A : Around) (outer : List Env) (s : Shared) (H : Hp) (E : XK), Room k (A.deeper (PyProof.Rows.envOfC qual scope s.heap.objs.size f cdv)) → SSs cls own (cxOf CX0 P w K mg base N qual scope f cdv A outer s H E).nox body den) :
    FnOk P w K mg base CX0 (k + 1) f fd ps (SpD ⟨K, P, w⟩ cls ps.length (runFn N.length den)) := by
  refine F.ok S (fun vs H Q E h => h.1) fun cdv A outer s H vs Q E hr h => ⟨_, PSs.nox (hb cdv A outer s H E hr), ?_⟩
  obtain ⟨hl, G, al, ds, st, d, st', hst, dv, e, k⟩ := h
  unfold runFn at e
  split at e
  case h_3 => cases e
  case h_1 _ d0 m0 e0 =>
    cases e
    refine ⟨G, al, ⟨ds.map some ++ List.replicate (N.length - ds.length) none, st⟩, .rt _, m0, ?_, e0, fun G1 al1 σ1 H1 ev1 r1 v dv1 => k G1 al1 v H1 ev1 r1.hst dv1⟩
    refine ⟨hst, by simp [L2.start, dv.length], fun i d q ho => ?_, fun i d q ho => ?_⟩
    · have q' := start_get q
      obtain ⟨v, h1, h2⟩ := dv.get q'
      refine ⟨v, ?_, h2⟩
      unfold L2.start
      rw [List.getElem?_append_left (by simpa using (List.getElem?_eq_some_iff.mp h1).1), List.getElem?_map, h1]
      rfl
    · have q' := start_get q
      have := (List.getElem?_eq_some_iff.mp q').1
      rw [hop i (by rw [← hl, dv.length]; exact this)] at ho
      cases ho
  case h_2 _ m0 e0 =>
    cases e
    refine ⟨G, al, ⟨ds.map some ++ List.replicate (N.length - ds.length) none, st⟩, .nx, m0, ?_, e0, fun G1 al1 σ1 H1 ev1 r1 => k G1 al1 .non H1 ev1 r1.hst .non⟩
    refine ⟨hst, by simp [L2.start, dv.length], fun i d q ho => ?_, fun i d q ho => ?_⟩
    · have q' := start_get q
      obtain ⟨v, h1, h2⟩ := dv.get q'
      refine ⟨v, ?_, h2⟩
      unfold L2.start
      rw [List.getElem?_append_left (by simpa using (List.getElem?_eq_some_iff.mp h1).1), List.getElem?_map, h1]
      rfl
    · have q' := start_get q
      have := (List.getElem?_eq_some_iff.mp q').1
      rw [hop i (by rw [← hl, dv.length]; exact this)] at ho
      cases ho
end

/-! ### calls -/
/-- the slots' containers stand in the frame while another def runs -/
def callG (G : Gh) : Gh := fun a => match G a with
  | some (.slot _, o) => some (.frm, o)
  | x => x
def aftG (G G' : Gh) : Gh := fun a => match G a with
  | some (.slot i, o) => some (.slot i, o)
  | _ => G' a
theorem callG_eq {G : Gh} {a : Addr} {t : Tag} {o : HO} (h : G a = some (t, o)) (n : ∀ i, t ≠ .slot i) : callG G a = some (t, o) := by
  unfold callG
  rw [h]
  cases t with
  | slot i => exact absurd rfl (n i)
  | _ => rfl
theorem callG_slot {G : Gh} {a : Addr} {i : Nat} {o : HO} (h : G a = some (.slot i, o)) : callG G a = some (.frm, o) := by unfold callG; rw [h]
theorem zof_callG (G : Gh) : Zof (callG G) = Zof G := by
  funext a
  unfold Zof callG
  cases e : G a with
  | none => rfl
  | some x =>
    obtain ⟨t, o⟩ := x
    cases t <;> rfl
section
variable {K : KX} {cls : Nat → Addr} {own : Nat → Bool} {G G' : Gh} {al al' : List Addr} {m : MS} {σ : St} {H H' : Hp} {st : Sto}
theorem Hst.call (r : Hst K cls G al st H) : Hst K cls (callG G) al st H := by
  refine ⟨fun a t o e => ?_, r.len, fun n ob e => ?_⟩
  · unfold callG at e
    split at e
    · next i o' e' => cases e; exact r.gh a _ _ e'
    · next => exact r.gh a t o e
  · obtain ⟨a, h1, h2⟩ := r.sto n ob e
    refine ⟨a, h1, ?_⟩
    unfold SO at h2 ⊢
    cases ob with
    | lst ds =>
      obtain ⟨xs, e1, r1⟩ := h2
      exact ⟨xs, callG_eq e1 (by intro i z; cases z), by rw [zof_callG]; exact r1⟩
    | ins c fs => exact h2
theorem zof_aft (ev : Ev (callG G) al G' al') : Zof (aftG G G') = Zof G' := by
  funext a
  unfold Zof aftG
  cases e : G a with
  | none => rfl
  | some x =>
    obtain ⟨t, o⟩ := x
    cases t with
    | slot i =>
      have := ev.frm a o (callG_slot e)
      rw [this]
    | _ => rfl
theorem ev_aft (ev : Ev (callG G) al G' al') : Ev G al (aftG G G') al' := by
  refine ⟨fun a o e => ?_, fun a o e => ?_, ev.al⟩
  · have := ev.frz a o (callG_eq e (by intro i z; cases z))
    unfold aftG; rw [e]; exact this
  · have := ev.frm a o (callG_eq e (by intro i z; cases z))
    unfold aftG; rw [e]; exact this
theorem Rst.after (r : Rst K cls own G al m σ H) (ev : Ev (callG G) al G' al') (h : Hst K cls G' al' st H') : Rst K cls own (aftG G G') al' { m with st := st } σ H' := by
  have e0 := ev_aft ev
  refine ⟨⟨fun a t o e => ?_, h.len, fun n ob e => ?_⟩, r.len, fun i d e ho => ?_, fun i d e ho => ?_⟩
  · unfold aftG at e
    split at e
    · next e' =>
      cases e
      exact h.gh a _ _ (ev.frm a o (callG_slot e'))
    · exact h.gh a t o e
  · obtain ⟨a, h1, h2⟩ := h.sto n ob e
    refine ⟨a, h1, ?_⟩
    unfold SO at h2 ⊢
    cases ob with
    | lst ds =>
      obtain ⟨xs, e1, r1⟩ := h2
      refine ⟨xs, ?_, by rw [zof_aft ev]; exact r1⟩
      unfold aftG
      split
      · next i o' e' =>
        have := ev.frm a o' (callG_slot e')
        rw [e1] at this; cases this
      · exact e1
    | ins c fs => exact h2
  · obtain ⟨v, h1, h2⟩ := r.val i d e ho
    exact ⟨v, h1, h2.ev e0⟩
  · obtain ⟨a, o, h1, h2, h3⟩ := r.own i d e ho
    exact ⟨a, o, h1, by unfold aftG; rw [h2], h3.mono e0.same e0.al⟩
end
/-- f(..): the values, then the defaults -/
def eCall (fn : Fn) (dd : List D) (fs : Den (List D)) : Den D := fs.bind fun ds => fun m => match fn (ds ++ dd) m.st with
  | some (d, st) => .ok d { m with st := st }
  | none => .bad
section
variable {cls : Nat → Addr} {own : Nat → Bool} {X : Cx} {k : Nat} {f : Addr} {fd : FuncData} {ps : List Str} {fn : Fn} {dvs : List V} {dds : List D} {ds : List Value} {x : Str} {p pos : Pos} {e : Expr} {es : List Expr} {fs : Den (List Hd)}
theorem call_core {σ : St} {H : Hp} {Q : VK} {t : TA} {np : Nat} {E : XK} {G : Gh} {al : List Addr} {m : MS} {d : D} {as : List D} {st' : Sto} {vs : List V} (hnp : vs.length = np) (r : Rst X.kx cls own G al m σ H) (dv : DVs X.kx (Zof G) al vs as) (e2 : fn as m.st = some (d, st'))
    (k : ∀ G' al' v H', Ev G al G' al' → Rst X.kx cls own G' al' { m with st := st' } σ H' → DV X.kx (Zof G') al' v d → Q v H') : SpD X.kx cls np fn vs H Q E :=
  ⟨hnp, callG G, al, as, m.st, d, st', r.hst.call, by rw [zof_callG]; exact dv, e2, fun G' al' v H' ev hst dvv => k (aftG G G') al' v H' (ev_aft ev) (r.after ev hst) (by rw [zof_aft ev]; exact dvv)⟩
theorem se_call {np : Nat} (F : FnOk X.prog X.w X.K X.mg X.base CX0 k f fd ps (SpD X.kx cls np fn)) (hr : Room k X.A) (hg : Gl X x) (hm : X.mg x = some (.ref f)) (hk : PySem.W.keepIn X.K (.ref f) = true) (hb : Binds X.K fd ps ds) (hd : Vals dvs ds) (hdd : DVs X.kx (fun _ => none) [] dvs dds)
    (ha : SHs cls own X (e :: es) fs) (hnp : (e :: es).length + dvs.length = np) (hdb : (x == ("__debug__" : Str)) = false := by decide) (he : starEach (e :: es) X.env = (false, eval e X.env) :: starEach es X.env := by rfl) (hpl : (backTo pos (starEach es X.env)).any (·.1) = false := by rfl)
    (hlen : ∀ m hs m', fs m = .ok hs m' → hs.length = (e :: es).length) :
    SE cls own X (.Call (.Name x p) (e :: es) [] pos) (eCall fn dds (aVals fs)) := by
  refine pe_imp (pe_call F hr hg hm hk hb hd (pass0 (X := X)) ha hdb he hpl) fun σ H Q q => ?_
  obtain ⟨G, al, m, d, m', r, e, k⟩ := q
  obtain ⟨as, m1, e1, e⟩ := bind_ok e
  obtain ⟨hs, e1, l⟩ := aVals_ok e1
  split at e
  · next d0 st0 e2 =>
    cases e
    refine ⟨G, al, m, hs, m1, r, e1, fun G1 al1 vs H1 ev1 r1 hv => ?_⟩
    have dv := looksV_dv hv l
    have hdd' : DVs X.kx (Zof G1) al1 dvs dds := hdd.mono (fun a o (z : (none : Option HO) = some o) => nomatch z) (List.nil_prefix)
    have hvl : ∀ {vs : List V} {hs : List Hd}, HVs X.kx own G1 al1 σ vs hs → vs.length = hs.length := by
      intro vs hs h
      induction h with
      | nil => rfl
      | cons _ _ ih => rw [List.length_cons, List.length_cons, ih]
    refine call_core (t := tNil) (E := L2.E0) (by rw [List.length_append, hvl hv, hlen _ _ _ e1]; exact hnp) r1 (dv.append hdd') e2 fun G' al' v H' ev r' dvv => k G' al' v H' (ev1.trans ev) r' dvv
  · cases e
theorem se_call0 {np : Nat} (F : FnOk X.prog X.w X.K X.mg X.base CX0 k f fd ps (SpD X.kx cls np fn)) (hr : Room k X.A) (hg : Gl X x) (hm : X.mg x = some (.ref f)) (hk : PySem.W.keepIn X.K (.ref f) = true) (hb : Binds X.K fd ps ds) (hd : Vals dvs ds) (hdd : DVs X.kx (fun _ => none) [] dvs dds)
    (hnp : dvs.length = np) (hdb : (x == ("__debug__" : Str)) = false := by decide) : SE cls own X (.Call (.Name x p) [] [] pos) (eCall fn dds (.ret [])) := by
  refine pe_imp (pe_call0 F hr hg hm hk hb hd (pass0 (X := X)) hdb) fun σ H Q q => ?_
  obtain ⟨G, al, m, d, m', r, e, k⟩ := q
  obtain ⟨as, m1, e1, e⟩ := bind_ok e
  cases e1
  split at e
  · next d0 st0 e2 =>
    cases e
    have hdd' : DVs X.kx (Zof G) al dvs dds := hdd.mono (fun a o (z : (none : Option HO) = some o) => nomatch z) (List.nil_prefix)
    exact call_core (t := tNil) (E := L2.E0) hnp r hdd' e2 fun G' al' v H' ev r' dvv => k G' al' v H' ev r' dvv
  · cases e
end
end MI

namespace MI
open PySem PySem.Spec L2

mutual
inductive KAt (K : PySem.W.Frag) (H : Hp) : V → NestedKey → Prop
  | non : KAt K H .non .none
  | int (i : Int) : KAt K H (.int i) (.num i)
  | str (x : Str) : KAt K H (.str x) (.text x)
  | tup {a : Addr} {xs : List V} {ks : List NestedKey} : SqT K H a xs → KAtAll K H xs ks → KAt K H (.ref a) (.tup ks)
inductive KAtAll (K : PySem.W.Frag) (H : Hp) : List V → List NestedKey → Prop
  | nil : KAtAll K H [] []
  | cons {v : V} {vs : List V} {k : NestedKey} {ks : List NestedKey} : KAt K H v k → KAtAll K H vs ks → KAtAll K H (v :: vs) (k :: ks)
end
theorem toNKs_cons {d : D} {ds : List D} {ps : List NestedKey} (e : toNKs (d :: ds) = some ps) : ∃ p ps', toNK d = some p ∧ toNKs ds = some ps' ∧ ps = p :: ps' := by
  rw [toNKs] at e
  split at e
  · next p ps' h1 h2 => cases e; exact ⟨p, ps', h1, h2, rfl⟩
  · cases e
section
variable {K : KX} {H Z : Hp} {al : List Addr}
mutual
theorem DV.kat (s : Same Z H) : ∀ {v : V} {d : D} {k : NestedKey}, DV K Z al v d → toNK d = some k → KAt K.K H v k
  | _, _, _, .non, e => by cases e; exact .non
  | _, _, _, .int i, e => by cases e; exact .int i
  | _, _, _, .str i, e => by cases e; exact .str i
  | _, _, _, .tup (ds := ds) h r, e => by
    cases q : toNKs ds with
    | none => rw [toNK, q] at e; cases e
    | some ps => rw [toNK, q] at e; cases e; exact .tup (Same.tupS s h) (DVs.kat s r q)
  | _, _, _, .bl _, e => by cases e
  | _, _, _, .lst _ _, e => by cases e
  | _, _, _, .scr _, e => by cases e
  | _, _, _, .dicK _ _ _, e => by cases e
  | _, _, _, .ditN _ _ _ _ _ _, e => by cases e
  | _, _, _, .obj _, e => by cases e
theorem DVs.kat (s : Same Z H) : ∀ {v : List V} {d : List D} {k : List NestedKey}, DVs K Z al v d → toNKs d = some k → KAtAll K.K H v k
  | _, _, _, .nil, e => by cases e; exact .nil
  | _, _, _, .cons h r, e => by
    obtain ⟨p, ps, h1, h2, rfl⟩ := toNKs_cons e
    exact .cons (DV.kat s h h1) (DVs.kat s r h2)
end
theorem CR.kat (s : Same Z H) {v : V} {d : D} {k : NestedKey} (h : CR K H Z al v d) (e : toNK d = some k) : KAt K.K H v k := by
  cases d with
  | lst ds => cases e
  | dic ds => cases e
  | dit ds => cases e
  | _ => exact DV.kat s h e
end
section
variable {X : Cx} {pins : List (Addr × Obj)} {σ : St} {H : Hp} {s : Shared}
mutual
theorem KAt.is (I : Inv X pins σ H s) : ∀ (k : NestedKey) (v : V) (u : Value), KAt X.K H v k → RelV v u → NestedIs s.heap k u
  | .none, _, _, h, r => by cases h; cases r; exact .none
  | .num i, _, _, h, r => by cases h; obtain ⟨t, rfl⟩ := r; exact .int _ _
  | .text i, _, _, h, r => by cases h; obtain ⟨t, rfl⟩ := r; exact .text _ _
  | .tup ks, _, _, h, r => by
    cases h with
    | tup h1 h2 =>
      cases r
      obtain ⟨its, rv, ⟨o, e1, e2, n, e3⟩, _⟩ := I.tuple h1
      exact .tup e1 e2 e3 (by simpa using KAtAll.is I ks _ its h2 rv)
theorem KAtAll.is (I : Inv X pins σ H s) : ∀ (ks : List NestedKey) (vs : List V) (us : List Value), KAtAll X.K H vs ks → Vals vs us → NestedAll s.heap ks us
  | [], _, _, h, r => by cases h; cases r; exact .nil
  | k :: ks, _, _, h, r => by
    cases h with
    | cons h1 h2 => cases r with
      | cons r1 r2 => exact .cons (KAt.is I k _ _ h1 r1) (KAtAll.is I ks _ _ h2 r2)
end
/-- at a stands such a dict -/
structure DNat (K : KX) (H : Hp) (a : Addr) (o : Obj) (xs : XS) : Prop where
  at_ : H a = some (hoN a o)
  raw : RawN K a o xs
  keys : KAtAll K.K H (xs.map fun x => V.ref x.2.1) (xs.map (·.1))
theorem KAtAll.mem : ∀ {xs : XS}, KAtAll X.K H (xs.map fun x => V.ref x.2.1) (xs.map (·.1)) → ∀ x ∈ xs, KAt X.K H (.ref x.2.1) x.1
  | [], _, x, hx => by cases hx
  | y :: ys, h, x, hx => by
    cases h with
    | cons h1 h2 =>
      rcases List.mem_cons.mp hx with rfl | hx
      · exact h1
      · exact KAtAll.mem h2 x hx
theorem DNat.dict {a : Addr} {o : Obj} {xs : XS} (d : DNat X.kx H a o xs) (I : Inv X pins σ H s) : s.heap.DictOfH (nestedKind X.prog X.w) a xs := by
  obtain ⟨es, ep, e1, e2⟩ := d.raw.ent
  have h0 : s.heap.get? a = some o := (I.hok a _ d.at_).1
  refine ⟨o, es, ep, h0, d.raw.exact', e1, e2, fun x hx => ⟨KAt.is I x.1 _ _ (KAtAll.mem d.keys x hx) rfl, d.raw.dp x hx⟩, d.raw.nd⟩
theorem DNat.ty {a : Addr} {o : Obj} {xs : XS} (d : DNat X.kx H a o xs) (I : Inv X pins σ H s) : s.TypeIs (.ref a) "dict" := (d.dict I).typeIs
theorem room8 (hu : X.A.units + 65 < cLine) : (nestedKind X.prog X.w).room X.A.in1 := by
  show X.A.in1.units + 8 < cLine
  have : X.A.in1.units ≤ X.A.units + 1 := by
    first
      | exact Nat.le_refl _
      | simp [Around.in1]
  omega
def rInN (K : KX) (neg : Bool) : R2 := fun x y H Q => ∃ (a b : Addr) (o : Obj) (xs : XS) (nk : NestedKey), x = .ref b ∧ y = .ref a ∧ DNat K H a o xs ∧ KAt K.K H (.ref b) nk ∧ nk.depth ≤ 8 ∧ Q (.bl (if neg then !(atKey xs nk).isSome else (atKey xs nk).isSome)) H
theorem op_inN (hu : X.A.units + 65 < cLine) : OpR X (compareOp .In) (rInN X.kx false) := by
  intro pins s σ H x y v u Q I rx ry h
  obtain ⟨a, b, o, xs, nk, rfl, rfl, d, kb, hd, q⟩ := h
  cases rx
  cases ry
  exact wpAny_in_heap (room8 hu) ⟨KAt.is I nk _ _ kb rfl, hd⟩ d.raw.ns (d.dict I) ⟨.bl _, H, I.tok _, rfl, q⟩
theorem op_notInN (hu : X.A.units + 65 < cLine) : OpR X (compareOp .NotIn) (rInN X.kx true) := by
  intro pins s σ H x y v u Q I rx ry h
  obtain ⟨a, b, o, xs, nk, rfl, rfl, d, kb, hd, q⟩ := h
  cases rx
  cases ry
  refine notIn_keyed (room8 hu) ⟨KAt.is I nk _ _ kb rfl, hd⟩ d.raw.ns ⟨xs, d.dict I, rfl⟩ ⟨.bl _, H, I.tok _, ?_, q⟩
  rw [valueAt_pairsH, Option.isSome_map]
  rfl
/-- d[k] -/
def rIxN (K : KX) : R2 := fun x y H Q => ∃ (a b : Addr) (o : Obj) (xs : XS) (nk : NestedKey) (p : Addr × Value) (v : V), x = .ref a ∧ y = .ref b ∧ DNat K H a o xs ∧ KAt K.K H (.ref b) nk ∧ nk.depth ≤ 8 ∧ atKey xs nk = some p ∧ RelV v p.2 ∧ Q v H
theorem ix_N (hu : X.A.units + 65 < cLine) : IxR X (rIxN X.kx) := by
  intro value slice pins s σ H x y v u Q I rx ry h hs
  obtain ⟨a, b, o, xs, nk, p, z, rfl, rfl, d, kb, hd, hp, rz, q⟩ := h
  cases rx
  cases ry
  exact PyProof.Rows.tail_any (d.ty I) PySem.F.slot_dict_getitem.lookup (wpAny_getItem_heap (room8 hu) ⟨KAt.is I nk _ _ kb rfl, hd⟩ (d.dict I) hp ⟨z, H, I.tok _, rz, q⟩) hs
end

/-! ### by data -/
def kEqN (a b : D) : Bool := match toNK a, toNK b with
  | some x, some y => NestedKey.beq x y
  | _, _ => false
def isNK (d : D) : Bool := match d with
  | .tup _ => (toNK d).any fun k => decide (k.depth ≤ 8)
  | _ => false
def dgetN : List (D × D) → D → Option D
  | [], _ => none
  | (k, v) :: r, x => if kEqN k x then some v else dgetN r x
theorem isNK_ok {d : D} (h : isNK d = true) : ∃ ds k, d = .tup ds ∧ toNK d = some k ∧ k.depth ≤ 8 := by
  unfold isNK at h
  split at h
  · next ds =>
    cases q : toNK (.tup ds) with
    | none => rw [q] at h; cases h
    | some k => rw [q] at h; exact ⟨ds, k, rfl, rfl, of_decide_eq_true h⟩
  · cases h
theorem dgetN_at {K : KX} {Z : Hp} {al : List Addr} {x : D} {nk : NestedKey} (hx : toNK x = some nk) : ∀ {xs : XS} {ds : List (D × D)} {vs : List V}, toNKs (ds.map Prod.fst) = some (xs.map (·.1)) → Vals vs (xs.map (·.2.2)) → DVs K Z al vs (ds.map Prod.snd) →
    (∀ d, dgetN ds x = some d → ∃ p v, atKey xs nk = some p ∧ RelV v p.2 ∧ DV K Z al v d) ∧ (dgetN ds x = none → atKey xs nk = none)
  | [], [], _, _, _, _ => ⟨fun d h => (nomatch (show (none : Option D) = some d from h)), fun _ => rfl⟩
  | [], (_, _) :: _, _, e, _, _ => by
    obtain ⟨p, ps, _, _, e⟩ := toNKs_cons e
    cases e
  | _ :: _, [], _, e, _, _ => by cases e
  | (k0, b, u) :: xs, (dk, dv) :: ds, vs, e, rv, r => by
    obtain ⟨p, ps, h1, h2, e⟩ := toNKs_cons e
    have e : k0 :: xs.map (·.1) = p :: ps := e
    injection e with e1 e2
    rw [← e1] at h1
    rw [← e2] at h2
    have h1 : toNK dk = some k0 := h1
    cases rv with
    | cons rv1 rv2 =>
      cases r with
      | cons r1 r2 =>
        obtain ⟨i1, i2⟩ := dgetN_at hx h2 rv2 r2
        unfold dgetN
        have hk : kEqN dk x = decide (k0 = nk) := by unfold kEqN; rw [h1, hx, NestedKey.decide_eq]
        rw [hk]
        by_cases h : k0 = nk
        · have ha : atKey ((k0, b, u) :: xs) nk = some (b, u) := by unfold atKey; rw [List.find?_cons, decide_eq_true h]; rfl
          simp only [decide_eq_true h, if_true]
          exact ⟨fun d' q => by cases q; exact ⟨(b, u), _, ha, rv1, r1⟩, fun q => by cases q⟩
        · simp only [decide_eq_false h, Bool.false_eq_true, if_false]
          have : atKey ((k0, b, u) :: xs) nk = atKey xs nk := by unfold atKey; rw [List.find?_cons, decide_eq_false h]
          rw [this]
          exact ⟨i1, i2⟩
section
variable {cls : Nat → Addr} {own : Nat → Bool} {K : KX}
theorem dnat_of {G : Gh} {al : List Addr} {m : MS} {σ : St} {H : Hp} {a : Addr} {o : Obj} {xs : XS} {ds : List (D × D)} (r : Rst K cls own G al m σ H) (h1 : H a = some (hoN a o)) (h2 : RawN K a o xs) (h3 : DVs K (Zof G) al (xs.map fun x => V.ref x.2.1) (ds.map Prod.fst)) (h4 : toNKs (ds.map Prod.fst) = some (xs.map (·.1))) :
    DNat K H a o xs := ⟨h1, h2, h3.kat r.zh h4⟩
theorem CR.tref {H Z : Hp} {al : List Addr} {v : V} {ds : List D} (h : CR K H Z al v (.tup ds)) : ∃ b, v = .ref b := by
  obtain ⟨a, xs, rfl, _⟩ := h.tup
  exact ⟨a, rfl⟩
def gInA (a b : D) : Option D := match b with
  | .dit ds => if isNK a then some (.bl (dgetN ds a).isSome) else none
  | _ => gInD a b
def gNotInA (a b : D) : Option D := match b with
  | .dit ds => if isNK a then some (.bl (!(dgetN ds a).isSome)) else none
  | _ => gNotInD a b
def gIxA (a b : D) : Option D := match a with
  | .dit ds => if isNK b then dgetN ds b else none
  | _ => gIx a b
theorem inN_core {G : Gh} {al : List Addr} {m : MS} {σ : St} {H : Hp} {x y : V} {da : D} {ds : List (D × D)} (r : Rst K cls own G al m σ H) (hx : CR K H (Zof G) al x da) (hy : CR K H (Zof G) al y (.dit ds)) (hk : isNK da = true) :
    ∃ (a b : Addr) (o : Obj) (xs : XS) (nk : NestedKey) (vs : List V), x = .ref b ∧ y = .ref a ∧ DNat K H a o xs ∧ KAt K.K H (.ref b) nk ∧ nk.depth ≤ 8 ∧ toNK da = some nk ∧ toNKs (ds.map Prod.fst) = some (xs.map (·.1)) ∧ Vals vs (xs.map (·.2.2)) ∧ DVs K (Zof G) al vs (ds.map Prod.snd) := by
  obtain ⟨es, nk, rfl, h1, h2⟩ := isNK_ok hk
  obtain ⟨b, rfl⟩ := hx.tref
  obtain ⟨a, o, xs, vs, rfl, q1, q2, q3, q4, q5, q6⟩ := hy
  exact ⟨a, b, o, xs, nk, vs, rfl, rfl, dnat_of r q1 q2 q3 q4, hx.kat r.zh h1, h2, h1, q4, q5, q6⟩
theorem ok_inA : OpOk K cls own (rOr (rInAll K.K false) (rInN K false)) gInA := by
  intro G al m σ H x y da db d Q r hx hy e k
  unfold gInA at e
  split at e
  · next ds =>
    split at e
    · next hk =>
      cases e
      obtain ⟨a, b, o, xs, nk, vs, rfl, rfl, dn, kb, dp, h1, q4, q5, q6⟩ := inN_core r hx hy hk
      refine .inr ⟨a, b, o, xs, nk, rfl, rfl, dn, kb, dp, ?_⟩
      obtain ⟨i1, i2⟩ := dgetN_at h1 q4 q5 q6
      have e : (atKey xs nk).isSome = (dgetN ds da).isSome := by
        cases q : dgetN ds da with
        | none => rw [i2 q]; rfl
        | some d => obtain ⟨p, v, h1, _⟩ := i1 d q; rw [h1]; rfl
      simp only [e]
      exact k.keep r (.bl _)
    · cases e
  · exact .inl (ok_in G al m σ H x y da db d Q r hx hy e k)
theorem ok_notInA : OpOk K cls own (rOr (rInAll K.K true) (rInN K true)) gNotInA := by
  intro G al m σ H x y da db d Q r hx hy e k
  unfold gNotInA at e
  split at e
  · next ds =>
    split at e
    · next hk =>
      cases e
      obtain ⟨a, b, o, xs, nk, vs, rfl, rfl, dn, kb, dp, h1, q4, q5, q6⟩ := inN_core r hx hy hk
      refine .inr ⟨a, b, o, xs, nk, rfl, rfl, dn, kb, dp, ?_⟩
      obtain ⟨i1, i2⟩ := dgetN_at h1 q4 q5 q6
      have e : (atKey xs nk).isSome = (dgetN ds da).isSome := by
        cases q : dgetN ds da with
        | none => rw [i2 q]; rfl
        | some d => obtain ⟨p, v, h1, _⟩ := i1 d q; rw [h1]; rfl
      simp only [e]
      exact k.keep r (.bl _)
    · cases e
  · exact .inl (ok_notIn G al m σ H x y da db d Q r hx hy e k)
theorem ok_ixA : OpOk K cls own (rOr (rIxAll K.K) (rIxN K)) gIxA := by
  intro G al m σ H x y da db d Q r hx hy e k
  unfold gIxA at e
  split at e
  · next ds =>
    split at e
    · next hk =>
      obtain ⟨a, b, o, xs, nk, vs, rfl, rfl, dn, kb, dp, h1, q4, q5, q6⟩ := inN_core r hy hx hk
      obtain ⟨p, v, i1, i2, i3⟩ := (dgetN_at h1 q4 q5 q6).1 d e
      exact .inr ⟨a, b, o, xs, nk, p, v, rfl, rfl, dn, kb, dp, i1, i2, k.keep r i3⟩
    · cases e
  · exact .inl (ok_ix G al m σ H x y da db d Q r hx hy e k)
end
section
variable {cls : Nat → Addr} {own : Nat → Bool} {X : Cx} {a b : Expr} {fa fb : Den Hd} {pos : Pos}
theorem op_inA (hu : X.A.units + 65 < cLine) : OpR X (compareOp .In) (rOr (rInAll X.K false) (rInN X.kx false)) := opR_or (op_inU hu) (op_inN hu)
theorem op_notInA (hu : X.A.units + 65 < cLine) : OpR X (compareOp .NotIn) (rOr (rInAll X.K true) (rInN X.kx true)) := opR_or (op_notInU hu) (op_notInN hu)
theorem se_ixA (hu : X.A.units + 65 < cLine) (ha : SH cls own X a fa) (hb : SH cls own X b fb) (hs : PlainIx b) : SE cls own X (.Subscript a b pos) (eOp gIxA fa fb) := by
  refine pe_imp (pe_ix (IxR.or (ix_all hu) (ix_N hu)) ha hb hs) fun σ H Q q => ?_
  obtain ⟨G, al, m, d, m', r, e, k⟩ := q
  obtain ⟨h1, m1, h2, x, y, e1, e2, l1, l2, gz⟩ := eOp_ok e
  refine ⟨G, al, m, h1, m1, r, e1, fun G1 al1 v H1 ev1 r1 hv1 => ⟨G1, al1, m1, h2, m', r1, e2, fun G2 al2 u H2 ev2 r2 hv2 => ?_⟩⟩
  exact ok_ixA G2 al2 m' σ H2 v u x y d Q r2 (look_cr r2 (hv1.ev ev2) l1) (look_cr r2 hv2 l2) gz fun G3 al3 w H3 ev3 r3 dv => k G3 al3 w H3 ((ev1.trans ev2).trans ev3) r3 dv
end
end MI

namespace MI
open PySem PySem.Spec L2

theorem ext_ok {P : Program} {w : World} {H : Hp} {h : Heap} {a : Addr} {o : Obj} (e : h.get? a = some o) : ObjOk P w H h a (hoN a o) := ⟨e, ⟨o, e⟩, fun _ _ p k => k _ p⟩
/-! ### a[k] = v, keys that are tuples -/
def rSetN (K : KX) : TSet := fun o i v H Q => ∃ (a b : Addr) (ob : Obj) (xs : XS) (nk : NestedKey), o = .ref a ∧ i = .ref b ∧ DNat K H a ob xs ∧ KAt K.K H (.ref b) nk ∧ nk.depth ≤ 8 ∧ xs.length < sizeLine ∧
  ∀ o' u, RelV v u → RawN K a o' (storedH xs nk b u) → Q (upd H a (hoN a o'))
theorem storedH_keys {xs : XS} {k : NestedKey} {b : Addr} {u : Value} : ∀ x ∈ storedH xs k b u, x.1 = k ∨ ∃ y ∈ xs, y.1 = x.1 := by
  intro x hx
  unfold storedH at hx
  split at hx
  · obtain ⟨y, hy, rfl⟩ := List.mem_map.mp hx
    unfold putAt
    split
    · exact .inr ⟨y, hy, rfl⟩
    · exact .inr ⟨y, hy, rfl⟩
  · rcases List.mem_append.mp hx with hx | hx
    · exact .inr ⟨x, hx, rfl⟩
    · rw [List.mem_singleton.mp hx]; exact .inl rfl
theorem set_N {X : Cx} (hu : X.A.units + 65 < cLine) : PSet X (rSetN X.kx) := by
  intro pins s σ H o i v ov iv u Q I ro ri rv h
  obtain ⟨a, b, ob, xs, nk, rfl, rfl, d, kb, hd, hl, q⟩ := h
  cases ro
  cases ri
  refine wpAny_setItem_heap (hsz := Nat.le_of_lt hl) (room8 hu) ⟨KAt.is I nk _ _ kb rfl, hd⟩ (d.dict I) fun h' dd' hs => ?_
  obtain ⟨o', es, ep, hq, h2, h3, h4, _, h5⟩ := dd'
  have raw : RawN X.kx a o' (storedH xs nk b u) := ⟨Nat.le_trans (storedH_length xs nk b u) hl, d.raw.ns, h2, ⟨es, ep, h3, h4⟩, h5, fun x hx => by
    rcases storedH_keys x hx with e | ⟨y, hy, e⟩
    · rw [e]; exact hd
    · rw [← e]; exact d.raw.dp y hy⟩
  exact ⟨_, d_write I (by rw [d.at_]; exact True.intro) hs ⟨o', hq⟩ (ext_ok hq), q o' u rv raw⟩
def rSetD : TSet := fun o i v H Q => ∃ a H', o = .ref a ∧ DPut H a i v H' ∧ Q H'
theorem set_D {X : Cx} (hu : X.A.units + 65 < cLine) : PSet X rSetD := by
  intro pins s σ H o i v ov iv u Q I ro ri rv h
  obtain ⟨a, H', rfl, g, q⟩ := h
  cases ro
  exact d_setItem (by omega) I g ri rv fun s' I' => ⟨H', I', q⟩
def tsOr (r1 r2 : TSet) : TSet := fun o i v H Q => r1 o i v H Q ∨ r2 o i v H Q
theorem set_or {X : Cx} {r1 r2 : TSet} (h1 : PSet X r1) (h2 : PSet X r2) : PSet X (tsOr r1 r2) := by
  intro pins s σ H o i v ov iv u Q I ro ri rv h
  rcases h with h | h
  · exact h1 pins s σ H o i v ov iv u Q I ro ri rv h
  · exact h2 pins s σ H o i v ov iv u Q I ro ri rv h
def rSetA (K : KX) : TSet := tsOr rSetL (tsOr rSetD (rSetN K))
theorem set_A {X : Cx} (hu : X.A.units + 65 < cLine) : PSet X (rSetA X.kx) := set_or set_list (set_or (set_D hu) (set_N hu))
/-! ### by data -/
def dput (ds : List (D × D)) (k v : D) : List (D × D) := if (dget ds k).isSome then ds.map (fun q => if kEq q.1 k then (q.1, v) else q) else ds ++ [(k, v)]
def dputN (ds : List (D × D)) (k v : D) : List (D × D) := if (dgetN ds k).isSome then ds.map (fun q => if kEqN q.1 k then (q.1, v) else q) else ds ++ [(k, v)]
def gSet : D → D → D → Option D
  | .lst ds, .int i, v => (ixN ds.length i).map fun j => .lst (ds.set j v)
  | .dic ds, k, v => if isKey k && decide (ds.length < sizeLine) then some (.dic (dput ds k v)) else none
  | .dit ds, k, v => if isNK k && decide (ds.length < sizeLine) then some (.dit (dputN ds k v)) else none
  | _, _, _ => none
section
variable {K : KX} {cls : Nat → Addr} {own : Nat → Bool}
theorem dput_K {Z : Hp} {al : List Addr} {k : Key} {v : V} {d : D} (hv : DV K Z al v d) {kvs : List (Key × V)} {ds : List (D × D)} (e : ds.map Prod.fst = kvs.map (fun q => kD q.1)) (r : DVs K Z al (kvs.map Prod.snd) (ds.map Prod.snd)) :
    (dput ds (kD k) d).map Prod.fst = (putK kvs k v).map (fun q => kD q.1) ∧ DVs K Z al ((putK kvs k v).map Prod.snd) ((dput ds (kD k) d).map Prod.snd) := by
  have hany : (kvs.any fun kv => decide (kv.1 = k)) = (dget ds (kD k)).isSome := by
    rw [valV_any]
    obtain ⟨i1, i2⟩ := dget_K k e r
    cases q : dget ds (kD k) with
    | none => rw [i2 q]; rfl
    | some d => obtain ⟨v, h1, _⟩ := i1 d q; rw [h1]; rfl
  unfold dput putK
  rw [hany]
  split
  · clear hany
    rename_i hs; clear hs
    induction kvs generalizing ds with
    | nil => cases ds with
      | nil => exact ⟨rfl, .nil⟩
      | cons _ _ => cases e
    | cons kv kvs ih => cases ds with
      | nil => cases e
      | cons q ds =>
        obtain ⟨qk, qd⟩ := q
        obtain ⟨kk, kv⟩ := kv
        have e' : qk :: ds.map Prod.fst = kD kk :: kvs.map (fun q => kD q.1) := e
        injection e' with e1 e2
        subst e1
        cases r with
        | cons r1 r2 =>
          obtain ⟨i1, i2⟩ := ih e2 r2
          simp only [List.map_cons]
          rw [kEq_kD]
          by_cases h : kk = k
          · subst h
            simp only [decide_true, if_true, List.cons.injEq]
            exact ⟨⟨trivial, i1⟩, .cons hv i2⟩
          · simp only [h, decide_false, Bool.false_eq_true, if_false, List.cons.injEq]
            exact ⟨⟨trivial, i1⟩, .cons r1 i2⟩
  · simp only [List.map_append, List.map_cons, List.map_nil]
    exact ⟨by rw [e], r.append (.cons hv .nil)⟩
theorem dputN_at {Z : Hp} {al : List Addr} {x : D} {nk : NestedKey} {b : Addr} {v : V} {u : Value} {d : D} (hx : toNK x = some nk) (hb : DV K Z al (.ref b) x) (hv : DV K Z al v d) (ru : RelV v u) {xs : XS} {ds : List (D × D)} {vs : List V} (hk : DVs K Z al (xs.map fun x => V.ref x.2.1) (ds.map Prod.fst))
    (e : toNKs (ds.map Prod.fst) = some (xs.map (·.1))) (rv : Vals vs (xs.map (·.2.2))) (r : DVs K Z al vs (ds.map Prod.snd)) :
    ∃ vs', DVs K Z al ((storedH xs nk b u).map fun x => V.ref x.2.1) ((dputN ds x d).map Prod.fst) ∧ toNKs ((dputN ds x d).map Prod.fst) = some ((storedH xs nk b u).map (·.1)) ∧ Vals vs' ((storedH xs nk b u).map (·.2.2)) ∧ DVs K Z al vs' ((dputN ds x d).map Prod.snd) := by
  have hany : (atKey xs nk).isSome = (dgetN ds x).isSome := by
    obtain ⟨i1, i2⟩ := dgetN_at hx e rv r
    cases q : dgetN ds x with
    | none => rw [i2 q]; rfl
    | some d => obtain ⟨p, v, h1, _⟩ := i1 d q; rw [h1]; rfl
  unfold dputN storedH
  rw [hany]
  split
  · clear hany
    rename_i hs; clear hs
    induction xs generalizing ds vs with
    | nil => cases ds with
      | nil => cases rv; exact ⟨[], .nil, rfl, .nil, .nil⟩
      | cons q ds => cases hk
    | cons y xs ih => cases ds with
      | nil => cases hk
      | cons q ds =>
        obtain ⟨qk, qd⟩ := q
        obtain ⟨k0, b0, u0⟩ := y
        obtain ⟨p, ps, h1, h2, e'⟩ := toNKs_cons e
        have e' : k0 :: xs.map (·.1) = p :: ps := e'
        injection e' with e1 e2
        rw [← e1] at h1
        rw [← e2] at h2
        have h1 : toNK qk = some k0 := h1
        cases hk with
        | cons k1 k2 =>
          cases rv with
          | cons rv1 rv2 =>
            cases r with
            | cons r1 r2 =>
              obtain ⟨vs', i1, i2, i3, i4⟩ := ih k2 h2 rv2 r2
              have hkq : kEqN qk x = decide (k0 = nk) := by unfold kEqN; rw [h1, hx, NestedKey.decide_eq]
              simp only [List.map_cons]
              rw [hkq]
              by_cases h : k0 = nk
              · have hp : putAt nk u (k0, b0, u0) = (k0, b0, u) := by unfold putAt; rw [if_pos h]
                rw [hp]
                simp only [h, decide_true, if_true]
                refine ⟨v :: vs', .cons k1 i1, ?_, .cons ru i3, .cons hv i4⟩
                rw [toNKs, h1, i2, h]
              · have hp : putAt nk u (k0, b0, u0) = (k0, b0, u0) := by unfold putAt; rw [if_neg h]
                rw [hp]
                simp only [h, decide_false, Bool.false_eq_true, if_false]
                refine ⟨_ :: vs', .cons k1 i1, ?_, .cons rv1 i3, .cons r1 i4⟩
                rw [toNKs, h1, i2]
  · simp only [List.map_append, List.map_cons, List.map_nil]
    refine ⟨vs ++ [v], hk.append (.cons hb .nil), ?_, rv.append (.cons ru .nil), r.append (.cons hv .nil)⟩
    have app : ∀ {as : List D} {ks : List NestedKey}, toNKs as = some ks → toNKs (as ++ [x]) = some (ks ++ [nk]) := by
      intro as
      induction as with
      | nil => intro ks h; cases h; rw [List.nil_append, toNKs, hx]; rfl
      | cons a as ih =>
        intro ks h
        obtain ⟨p, ps, h1, h2, rfl⟩ := toNKs_cons h
        rw [List.cons_append, toNKs, h1, ih h2]
        rfl
    exact app e
theorem CR.tupDV {H Z : Hp} {al : List Addr} {v : V} {d : D} (h : CR K H Z al v d) (e : isNK d = true) : DV K Z al v d := by
  obtain ⟨ds, k, rfl, _⟩ := isNK_ok e
  exact h
theorem ok_set {G : Gh} {al : List Addr} {m : MS} {σ : St} {H : Hp} {a : Addr} {o : HO} {d dk dv d' : D} {x v : V} {Q : Hp → Prop} (r : Rst K cls own G al m σ H) (ho : H a = some o) (c : CO K (Zof G) al a o d) (hx : CR K H (Zof G) al x dk) (hv : DV K (Zof G) al v dv) (e : gSet d dk dv = some d')
    (k : ∀ o', CO K (Zof G) al a o' d' → Q (upd H a o')) : rSetA K (.ref a) x v H Q := by
  unfold gSet at e
  split at e
  · next ds i =>
    cases q : ixN ds.length i with
    | none => rw [q] at e; cases e
    | some j =>
      rw [q] at e; cases e
      obtain ⟨xs, rfl, r1⟩ := c.lst
      cases hx.int
      exact .inl ⟨a, xs, i, j, rfl, rfl, ho, by rw [r1.length]; exact q, k (.lst _) (r1.set hv j)⟩
  · next ds =>
    split at e
    · next hk =>
      cases e
      rw [Bool.and_eq_true] at hk
      obtain ⟨k0, rfl⟩ := isKey_kD hk.1
      cases hx.key
      cases o with
      | dK kvs =>
        obtain ⟨c1, c2⟩ := c
        refine .inr (.inl ⟨a, _, rfl, DPut.k (k := k0) ho (by have h := congrArg List.length c1; simp only [List.length_map] at h; rw [← h]; exact of_decide_eq_true hk.2), k (.dK _) (dput_K hv c1 c2)⟩)
      | _ => exact (show False from c).elim
    · cases e
  · next ds =>
    split at e
    · next hk =>
      cases e
      rw [Bool.and_eq_true] at hk
      have hxd := hx.tupDV hk.1
      obtain ⟨es, nk, rfl, h1, h2⟩ := isNK_ok hk.1
      obtain ⟨b, rfl⟩ := hx.tref
      cases o with
      | ext φ =>
        obtain ⟨ob, xs, vs, rfl, q2, q3, q4, q5, q6⟩ := c
        refine .inr (.inr ⟨a, b, ob, xs, nk, rfl, rfl, dnat_of r ho q2 q3 q4, hx.kat r.zh h1, h2, ?_, fun o' u ru raw => ?_⟩)
        · have := q3.length
          simp only [List.length_map] at this
          rw [this]; exact of_decide_eq_true hk.2
        · obtain ⟨vs', i1, i2, i3, i4⟩ := dputN_at h1 hxd hv ru q3 q4 q5 q6
          exact k _ ⟨o', _, vs', rfl, raw, i1, i2, i3, i4⟩
      | _ => exact (show False from c).elim
    · cases e
  · cases e
end
/-- name[k] = v, the name an owned slot -/
def sPut (i : Nat) (fk : Den Hd) (fv : Den D) : Den Fl := fv.bind fun v => fun m1 => match m1.sl[i]? with
  | some (some _) => match fk m1 with
    | .ok hk m2 => match m2.sl[i]?, look hk m2 with
      | some (some d), some k => match gSet d k v with
        | some d' => .ok .nx { m2 with sl := m2.sl.set i (some d') }
        | none => .bad
      | _, _ => .bad
    | .bad => .bad
  | _ => .bad
section
variable {cls : Nat → Addr} {own : Nat → Bool} {X : Cx} {a b : Expr} {fk : Den Hd} {fv : Den D} {pos ps npos : Pos} {i : Nat} {x : Str}
theorem ss_put (hu : X.A.units + 65 < cLine) (hN : X.N[i]? = some x) (hvis : Vis X.env.scope x) (ho : own i = true) (hk : SH cls own X b fk) (hv : SE cls own X a fv)
    (hd : (x == ("__debug__" : Str)) = false := by decide) (hcd : (x == ("__classdict__" : Str)) = false := by decide)
    (hs : swapsWithSole [.Subscript (.Name x npos) b ps] a pos.line X.env = pure false := by rfl) (hw : swappedStores [.Subscript (.Name x npos) b ps] a X.env = pure none := by rfl)
    (ha : ∀ z, assign (.Subscript (.Name x npos) b ps) X.env z = (holding [z] (eval (.Name x npos) X.env) >>= fun o => holding [z, o] (eval b X.env) >>= fun j => standAt ps >>= fun _ => holding [z, o, j] (setItem o j z) >>= fun _ => release [z, o, j] []) := by intro _; rfl) :
    SS cls own X (.Assign [.Subscript (.Name x npos) b ps] a pos) (sPut i fk fv) := by
  refine ps_imp (ps_asg hv (pg_sub (pe_var (pos := npos) hN hvis hd hcd) hk (set_A hu) ha) hs hw) fun E σ H q => ?_
  obtain ⟨G, al, m, fl, m', r, e, k⟩ := q
  obtain ⟨v, m1, e1, e⟩ := bind_ok e
  split at e
  case h_2 => cases e
  next d0 e0 =>
  split at e
  case h_2 => cases e
  next hk m2 e2 =>
  split at e
  case h_2 => cases e
  next d dk e3 e4 =>
  split at e
  case h_2 => cases e
  next d' e5 =>
  cases e
  refine ⟨G, al, m, v, m1, r, e1, fun G1 al1 vv H1 ev1 r1 dv => ?_⟩
  obtain ⟨p, o0, s0, _, _⟩ := r1.own i _ e0 ho
  refine ⟨.ref p, s0, G1, al1, m1, hk, m2, r1, e2, fun G2 al2 y H2 ev2 r2 hy => ?_⟩
  obtain ⟨p', o, s1, g1, c1⟩ := r2.own i _ e3 ho
  rw [s0] at s1; cases s1
  refine ok_set r2 (r2.hst.gh _ _ _ g1) c1 (look_cr r2 hy e4) (dv.ev ev2) e5 fun o' c' => ?_
  obtain ⟨ev3, r3⟩ := r2.write e3 ho s0 g1 c'
  exact k _ al2 σ _ ((ev1.trans ev2).trans ev3) r3
/-! ### {} -/
theorem sf_dic : SF cls own X (.Dict [] [] pos) (eC (.dic [])) := by
  refine pe_imp pe_dnewK fun σ H Q q => ?_
  obtain ⟨G, al, m, d, m', r, e, k⟩ := q
  cases e
  exact fun p hp => k G al p _ _ .refl (r.fresh hp) upd_same (r.hst.nog hp) ⟨rfl, .nil⟩
theorem pe_dnewN {X : Cx} : PE X (.Dict [] [] pos) (fun _ H Q => ∀ p o, H p = none → RawN X.kx p o [] → Q (.ref p) (upd H p (hoN p o))) := by
  refine ⟨fun pins s σ H Q I h => ?_⟩
  have hg : (s.heap.push { cls := .type "dict", data := .dict #[] }).get? s.heap.objs.size = some { cls := .type "dict", data := .dict #[] } := Heap.get?_push_size _ rfl
  refine wpAny_Dict_empty ⟨.ref s.heap.objs.size, _, I.laid (a := s.heap.objs.size) (o := hoN s.heap.objs.size { cls := .type "dict", data := .dict #[] }) (t' := s.toks) (fun _ _ z => Heap.get?_push_of_some _ z) (Nat.le_refl _) (ext_ok hg), rfl, h _ _ (I.hok.fresh (Nat.le_refl _)) ⟨Nat.zero_le _, beq_eq_false_iff_ne.mpr (Nat.ne_of_gt I.big), ⟨rfl, rfl, rfl⟩, ⟨#[], _, rfl, rfl⟩, List.nodup_nil, fun x hx => (nomatch hx)⟩⟩
theorem sf_dit : SF cls own X (.Dict [] [] pos) (eC (.dit [])) := by
  refine pe_imp pe_dnewN fun σ H Q q => ?_
  obtain ⟨G, al, m, d, m', r, e, k⟩ := q
  cases e
  exact fun p o hp raw => k G al p _ _ .refl (r.fresh hp) upd_same (r.hst.nog hp) ⟨o, [], [], rfl, raw, .nil, rfl, .nil, .nil⟩
/-! ### globals -/
theorem se_glob {v : V} {u : Value} {d : D} {y : Str} (hg : Gl X y) (hm : X.mg y = some u) (rv : RelV v u) (hd : DV X.kx (fun _ => none) [] v d) (hdb : (y == ("__debug__" : Str)) = false := by decide) : SE cls own X (.Name y pos) (eC d) := by
  refine pe_imp (pe_glob hg hm rv hdb) fun σ H Q q => ?_
  obtain ⟨G, al, m, d0, m', r, e, k⟩ := q
  cases e
  exact k G al v H .refl r (hd.mono (fun a o (z : (none : Option HO) = some o) => nomatch z) List.nil_prefix)
end
end MI

namespace MI
open PySem PySem.Spec L2

theorem enum_new1 {v : Value} {o : Obj} {H : Heap → Prop} (B : Begins v o H) :
    Meets (Builtin.«enumerate.__new__» ⟨[.type "enumerate", v], []⟩) (fun _ R s => H s.heap ∧
      R (.ok (.ret (.ref (s.heap.push o).objs.size))) { s with heap := (s.heap.push o).push { cls := .type "enumerate", data := .fields #[.none, .bool false, .ref s.heap.objs.size, rawInt 0, .none, .none] } }) :=
  .of_wp fun prog w A R s h => by
    obtain ⟨hp, g, d, tk, os⟩ := s
    obtain ⟨h1, h⟩ := h
    have hsub := sub_enumerate
    have it1 : ∀ {B' : Around} {F : Value → Shared → Prop} {Q : Value → Shared → Prop}, Q (.ref hp.objs.size) ⟨hp.push o, g, d, tk, os⟩ → wpAny (model prog w) B' (pyIter v) Q F ⟨hp, g, d, tk, os⟩ :=
      fun z => B.iter prog w _ _ ⟨hp, g, d, tk, os⟩ _ h1 z
    wp_walk using it1
    refine wpAny_stack_any fun st => wpAny_pure ?_
    split
    · rename_i c _ _ _ _ _
      cases (c == Value.type "enumerate") <;> (wp_walk using it1; exact ⟨_, rfl, h⟩)
    · (wp_walk using it1; exact ⟨_, rfl, h⟩)
section
variable {prog : Program} {w : World} {A : Around} {E : Value → Shared → Prop} {s : Shared}
theorem enum_call1 {v : Value} {o : Obj} {H : Heap → Prop} {Q : Value → Shared → Prop} (B : Begins v o H) (h1 : H s.heap)
    (h : ∀ h', IsEnum h' (s.heap.objs.size + 1) s.heap.objs.size 0 .none → h'.get? s.heap.objs.size = some o → h'.objs.size = s.heap.objs.size + 2 →
      (∀ b o, s.heap.get? b = some o → h'.get? b = some o) → Q (.ref (s.heap.objs.size + 1)) { s with heap := h' }) :
    wpAny (model prog w) A (call (.type "enumerate") [v]) Q E s := by
  refine callType_new F.called_enumerate (by decide) (F.typeCall_enumerate_1 _) (F.newCall_enumerate_1 _) (fun ob => F.args_object_init_2 ob _) F.entry_enumerate_new (enum_new1 B) ⟨h1, ?_⟩
  have sz : (s.heap.push o).objs.size = s.heap.objs.size + 1 := Heap.size_push ..
  show _ ∧ _
  rw [sz]
  have en : IsEnum ((s.heap.push o).push { cls := .type "enumerate", data := .fields #[.none, .bool false, .ref s.heap.objs.size, rawInt 0, .none, .none] }) (s.heap.objs.size + 1) s.heap.objs.size 0 .none := by
    have z := Heap.get?_push_size (s.heap.push o) (o := { cls := .type "enumerate", data := .fields #[.none, .bool false, .ref s.heap.objs.size, rawInt 0, .none, .none] }) rfl
    rw [sz] at z
    exact z
  exact ⟨⟨_, en, rfl⟩, h _ en (Heap.get?_push_of_some _ (Heap.get?_push_size _ B.free)) (by rw [Heap.size_push, sz]) fun b ob x => Heap.get?_push_of_some _ (Heap.get?_push_of_some _ x)⟩
end
/-- a new pair of the turn's number and the tuple's item -/
def IteT (K : PySem.W.Frag) (a : Addr) : It :=
  ⟨fun i H => ∃ (xs : List V) (x : V), SqT K H a xs ∧ xs[i]? = some x,
   fun i H v H' => ∃ T x, v = .ref T ∧ H T = none ∧ H' = upd H T (.tup [.int (i : Nat), x]) ∧ ∀ xs, SqT K H a xs → xs[i]? = some x,
   fun i H => ∃ xs : List V, SqT K H a xs ∧ xs.length = i⟩
theorem turn_enumT {P : Program} {w : World} {K : PySem.W.Frag} {elts : List Expr} {kk : Nat} {tpos : Pos} (a e it : Addr) :
    Turn P w K (.Tuple elts kk tpos) (IteT K a) [e, it] e (fun i h => (∃ old, IsEnum h e it ((i : Nat) : Int) old) ∧ h.IsTupleIter it a i ∧ e ≠ it) where
  mem := by simp
  obj := fun i h st b hb => by
    obtain ⟨⟨old, he⟩, ⟨o, ho, hc, hd⟩, _⟩ := st
    rcases (show b = e ∨ b = it by simpa using hb) with z | z
    · subst z; exact ⟨_, he, fun v q => nomatch q⟩
    · subst z; exact ⟨o, ho, fun v q => by rw [hd] at q; cases q⟩
  keep := fun i h h' st k => let ⟨⟨old, he⟩, hi, hne⟩ := st; ⟨⟨old, k e (by simp) _ he⟩, hi.at fun o q => k it (by simp) o q, hne⟩
  item := by
    intro X hP hw hK hc i pins s σ H E I hf st hg
    subst hP hw hK
    obtain ⟨⟨old, he⟩, hit, hne⟩ := st
    obtain ⟨xs, x, hq, hx⟩ := hg
    obtain ⟨its, rv, p, hz⟩ := I.tuple hq
    obtain ⟨u, hu, ru⟩ := rv.get hx
    have hel : e < s.heap.objs.size := Heap.lt_size he
    have hil : it < s.heap.objs.size := by obtain ⟨_, q, _⟩ := hit; exact Heap.lt_size q
    have hpt : s.heap.IsTuple a its.toArray := p
    have hai : a ≠ it := by
      rintro rfl
      obtain ⟨o1, e1, c1, d1⟩ := hit
      obtain ⟨o2, e2, c2, n2, d2⟩ := p
      rw [e1] at e2; cases e2; rw [d1] at d2; cases d2
    have hea : e ≠ a := by
      rintro rfl
      obtain ⟨o2, e2, c2, n2, d2⟩ := p
      rw [show s.heap.get? e = _ from he] at e2; cases e2; cases d2
    have hil2 : i < its.toArray.size := by
      have := (List.getElem?_eq_some_iff.mp hu).1
      simpa using this
    have Dr := Draws.tuple (prog := X.prog) (w := X.w) (A := X.A.in1) (by have := I.ok.hd hc; exact this) it a hai its.toArray
    refine wpAny_pyNext_enum_itemD Dr he ⟨hit, hpt⟩ hil2 hne (by simp [hne, hea]) fun y h' tk hy ho hst' hT hsz hk => ?_
    have hyu : y = u := by
      have h1 : its.toArray[i]? = some y := hy
      have h2 : its.toArray[i]? = some u := by simpa using hu
      rw [h1] at h2; exact Option.some.inj h2
    subst hyu
    refine ⟨_, rfl, wpAny_letOwnedTupleGo_enum (s := { s with heap := h', toks := tk + 1 }) ho fun h'' he' sb => ?_⟩
    have hT2 : h''.get? s.heap.objs.size = some { cls := .type "tuple", data := .seq #[.int i tk, y] } := (sb.2 _ (Nat.ne_of_gt hel)).trans hT
    have nw : ObjOk X.prog X.w (upd H s.heap.objs.size (.tup [.int (i : Nat), x])) h'' s.heap.objs.size (.tup [.int (i : Nat), x]) :=
      ⟨by show 2 ≤ sizeLine; decide, [.int i tk, y], .cons ⟨_, rfl⟩ (.cons ru .nil), ⟨_, hT2, rfl, _, rfl⟩⟩
    have I1 : Inv X pins σ (upd H s.heap.objs.size (.tup [.int (i : Nat), x])) { s with heap := h'', toks := tk + 1 } :=
      I.turnedNew (ch := [e, it]) (fun b ob hb q => (sb.2 b (fun z => hb (by simp [z]))).trans (hk b ob (fun z => hb (by simp [z])) (fun z => hb (by simp [z])) q)) hf (Nat.le_refl _) nw
    refine ⟨.ref s.heap.objs.size, _, I1, rfl, ⟨_, x, rfl, I.hok.fresh (Nat.le_refl _), rfl, fun ys hy => by rw [I.tuple_inj hy hq]; exact hx⟩, ⟨⟨y, ?_⟩, hst'.1.at fun o q => (sb.2 it (Ne.symm hne)).trans q, hne⟩, fun b hb => ?_⟩
    · have z : ((i + 1 : Nat) : Int) = (i : Int) + 1 := by omega
      rw [z]; exact he'
    · have hb' : b < s.heap.objs.size := by
        rcases (show b = e ∨ b = it by simpa using hb) with z | z
        · subst z; exact hel
        · subst z; exact hil
      rw [upd_ne (Nat.ne_of_lt hb')]
      exact (hf b hb).1
  done := by
    intro X hP hw hK hc i pins s σ H E I hf st hg
    subst hP hw hK
    obtain ⟨⟨old, he⟩, hit, hne⟩ := st
    obtain ⟨xs, hq, hx⟩ := hg
    obtain ⟨its, rv, p, hz⟩ := I.tuple hq
    obtain ⟨f0, f1, f2, f3, f4, f5⟩ := hf it (by simp)
    have hpt : s.heap.IsTuple a its.toArray := p
    have hai : a ≠ it := by
      rintro rfl
      obtain ⟨o1, e1, c1, d1⟩ := hit
      obtain ⟨o2, e2, c2, n2, d2⟩ := p
      rw [e1] at e2; cases e2; rw [d1] at d2; cases d2
    have hn : its.toArray.size = i := by
      have := rv.length
      simp only [List.size_toArray]
      omega
    have Dr := Draws.tuple (prog := X.prog) (w := X.w) (A := X.A.in1) (by have := I.ok.hd hc; exact this) it a hai its.toArray
    refine wpAny_pyNext_enum_endD Dr he (by rw [hn]; exact ⟨hit, hpt⟩) fun h' eb => ⟨rfl, I.turned (t' := s.toks) (fun b o hb q => eb b o hb q) f0 f1 f3 f4 f5⟩
  self := fun A i s Q E st h => let ⟨⟨_, he⟩, _⟩ := st; wpAny_pyIter_enum he h
theorem begins_tup (l : Addr) (items : Array Value) : Begins (.ref l) { cls := .type "tuple_iterator", data := .fields #[.ref l, .int 0 0] } fun h => h.IsTuple l items where
  iter := fun prog w A E s Q hl h => wpAny_pyIter_tuple hl h
  keeps := fun h h' x hk => x.at fun o e => hk l o e
  free := rfl
def iEnumS (K : PySem.W.Frag) (ta : TA) : TI := fun σ H R => ta σ H fun vs H1 => ∃ a, vs = [.ref a] ∧ ((∃ xs, SqL K H1 a xs ∧ R (Ite K a) H1) ∨ (∃ xs, SqT K H1 a xs ∧ R (IteT K a) H1))
theorem pi_enumS {X : Cx} {e : Expr} {ta : TA} {p pos tpos : Pos} {elts : List Expr} {kk : Nat} (hg : Gl X "enumerate") (hm : X.mg "enumerate" = none) (ha : PA X [e] ta) (hs : starEach [e] X.env = [(false, eval e X.env)] := by rfl) :
    PI X (.Tuple elts kk tpos) (.Call (.Name "enumerate" p) [e] [] pos) (iEnumS X.K ta) := by
  refine ⟨fun pins s σ H R I h => ?_⟩
  refine PyProof.Rows.Call_ (ld_blt I hg hm PyProof.Rows.boot_enumerate (PyProof.Rows.callWith_type1 (thn (ha.run pos pins s σ H _ I h) fun us s1 ⟨vs, H1, I1, r1, q1⟩ => ?_) hs rfl))
  obtain ⟨a, ex, q⟩ := q1
  subst ex
  cases r1 with
  | cons r rr =>
    cases rr
    cases r
    have fp : ∀ b ∈ [s1.heap.objs.size + 1, s1.heap.objs.size], FpOk X pins H1 b := by
      intro b hb
      have le : s1.heap.objs.size ≤ b := by
        rcases (show b = s1.heap.objs.size + 1 ∨ b = s1.heap.objs.size by simpa using hb) with z | z <;> omega
      exact I1.fpOk le (I1.hok.fresh le)
    rcases q with ⟨xs, hq, q⟩ | ⟨xs, hq, q⟩
    · obtain ⟨its, rv, pl, hz⟩ := I1.list hq
      refine enum_call1 (begins_list a its.toArray) pl.isList fun h' he hit hsz hk => wpAny_pyIter_enum he ?_
      exact ⟨s1.heap.objs.size + 1, [s1.heap.objs.size + 1, s1.heap.objs.size], _, _, H1, rfl, I1.kept (t' := s1.toks) hk, turn_enum a (s1.heap.objs.size + 1) s1.heap.objs.size, ⟨⟨.none, he⟩, ⟨_, hit, rfl, rfl⟩, Nat.succ_ne_self _⟩, fp, q⟩
    · obtain ⟨its, rv, pl, hz⟩ := I1.tuple hq
      refine enum_call1 (begins_tup a its.toArray) (show s1.heap.IsTuple a its.toArray from pl) fun h' he hit hsz hk => wpAny_pyIter_enum he ?_
      exact ⟨s1.heap.objs.size + 1, [s1.heap.objs.size + 1, s1.heap.objs.size], _, _, H1, rfl, I1.kept (t' := s1.toks) hk, turn_enumT a (s1.heap.objs.size + 1) s1.heap.objs.size, ⟨⟨.none, he⟩, ⟨_, hit, rfl, rfl⟩, Nat.succ_ne_self _⟩, fp, q⟩
/-! ### by data -/
def enumD (k : Int) : List D → List D
  | [] => []
  | d :: ds => .tup [.int k, d] :: enumD (k + 1) ds
theorem enumD_len : ∀ (ds : List D) (k : Int), (enumD k ds).length = ds.length
  | [], _ => rfl
  | d :: ds, k => by rw [enumD, List.length_cons, List.length_cons, enumD_len ds]
theorem enumD_get : ∀ (ds : List D) (k : Int) (i : Nat) (d : D), ds[i]? = some d → (enumD k ds)[i]? = some (.tup [.int (k + i), d])
  | [], _, _, _, h => by simp at h
  | x :: ds, k, 0, d, h => by
    have : x = d := by simpa using h
    subst this
    rw [enumD]; simp
  | x :: ds, k, i + 1, d, h => by
    rw [enumD, List.getElem?_cons_succ, enumD_get ds (k + 1) i d (by simpa using h), show k + 1 + (i : Int) = k + ((i + 1 : Nat) : Int) by omega]
/-- the new pair is told -/
theorem yield_pair {K : KX} {cls : Nat → Addr} {own : Nat → Bool} {G : Gh} {al : List Addr} {m : MS} {σ : St} {H : Hp} {T : Addr} {x y : V} {dx dy : D} (rs : Rst K cls own G al m σ H) (hT : H T = none) (hx : DV K (Zof G) al x dx) (hy : DV K (Zof G) al y dy) :
    ∃ G', Ev G al G' al ∧ Rst K cls own G' al m σ (upd H T (.tup [x, y])) ∧ DV K (Zof G') al (.ref T) (.tup [dx, dy]) ∧ (∀ a t o, G a = some (t, o) → G' a = some (t, o)) := by
  have hn := rs.hst.nog hT
  have ev : Ev G al (putG G T .frz (.tup [x, y])) al := ev_put hn
  refine ⟨_, ev, (rs.fresh hT).tag hn upd_same, .tup (.inl (.inl (zof_of putG_same))) (.cons (hx.ev ev) (.cons (hy.ev ev) .nil)), fun a t o e => ?_⟩
  rw [putG_ne (by intro z; subst z; rw [hn] at e; cases e)]
  exact e
section
variable {cls : Nat → Addr} {own : Nat → Bool} {X : Cx} {e : Expr} {pos p tpos : Pos} {fs : Den (List Hd)} {elts : List Expr} {kk : Nat}
theorem walk_enumL {K : KX} {Gs : Gh} {als : List Addr} {p : Addr} {xs : List V} {ds : List D} (h : Zof Gs p = some (.lst xs)) (r : DVs K (Zof Gs) als xs ds) : WalkD K cls own (Ite K.K p) (enumD 0 ds) Gs als where
  goes := fun G al m σ H i ev rs hi => by
    rw [enumD_len] at hi
    obtain ⟨v, h1, _⟩ := r.get (List.getElem?_eq_getElem hi)
    exact ⟨xs, v, .inl (.inl (rs.zh _ _ (ev.same _ _ h))), h1⟩
  stops := fun G al m σ H ev rs => ⟨xs, .inl (.inl (rs.zh _ _ (ev.same _ _ h))), by rw [enumD_len, r.length]; exact Nat.le_refl _⟩
  yields := fun G al m σ H i x H' d ev rs hd y => by
    obtain ⟨T, x0, rfl, hT, rfl, hx0⟩ := y
    have hi : i < ds.length := by have := (List.getElem?_eq_some_iff.mp hd).1; rw [enumD_len] at this; exact this
    rw [enumD_get ds 0 i _ (List.getElem?_eq_getElem hi)] at hd
    cases hd
    obtain ⟨v, h1, h2⟩ := (r.evz ev).get (List.getElem?_eq_getElem hi)
    have := hx0 xs (.inl (.inl (rs.zh _ _ (ev.same _ _ h))))
    rw [h1] at this; cases this
    have z : (0 : Int) + (i : Int) = (i : Int) := Int.zero_add _
    rw [z]
    exact yield_pair rs hT (.int _) h2
theorem walk_enumT {K : KX} {Gs : Gh} {als : List Addr} {p : Addr} {xs : List V} {ds : List D} (h : SqT K.K (Zof Gs) p xs) (r : DVs K (Zof Gs) als xs ds) : WalkD K cls own (IteT K.K p) (enumD 0 ds) Gs als where
  goes := fun G al m σ H i ev rs hi => by
    rw [enumD_len] at hi
    obtain ⟨v, h1, _⟩ := r.get (List.getElem?_eq_getElem hi)
    exact ⟨xs, v, Same.tupS rs.zh (Same.tupS ev.same h), h1⟩
  stops := fun G al m σ H ev rs => ⟨xs, Same.tupS rs.zh (Same.tupS ev.same h), by rw [enumD_len, r.length]⟩
  yields := fun G al m σ H i x H' d ev rs hd y => by
    obtain ⟨T, x0, rfl, hT, rfl, hx0⟩ := y
    have hi : i < ds.length := by have := (List.getElem?_eq_some_iff.mp hd).1; rw [enumD_len] at this; exact this
    rw [enumD_get ds 0 i _ (List.getElem?_eq_getElem hi)] at hd
    cases hd
    obtain ⟨v, h1, h2⟩ := (r.evz ev).get (List.getElem?_eq_getElem hi)
    have := hx0 xs (Same.tupS rs.zh (Same.tupS ev.same h))
    rw [h1] at this; cases this
    have z : (0 : Int) + (i : Int) = (i : Int) := Int.zero_add _
    rw [z]
    exact yield_pair rs hT (.int _) h2
def iEnum (f : Den (List Hd)) : Den (List D) := f.bind fun hs => fun m => match looksV hs with
  | some [.lst ds] => .ok (enumD 0 ds) m
  | some [.tup ds] => .ok (enumD 0 ds) m
  | _ => .bad
theorem si_enum (hg : Gl X "enumerate") (hm : X.mg "enumerate" = none) (ha : SHs cls own X [e] fs) (hs : starEach [e] X.env = [(false, eval e X.env)] := by rfl) :
    SI cls own X (.Tuple elts kk tpos) (.Call (.Name "enumerate" p) [e] [] pos) (iEnum fs) := by
  refine pi_imp (pi_enumS hg hm ha hs) fun σ H R q => ?_
  obtain ⟨G, al, m, ds, m', r, e, k⟩ := q
  obtain ⟨hs, m1, e1, e⟩ := bind_ok e
  refine ⟨G, al, m, hs, m1, r, e1, fun G1 al1 v H1 ev1 r1 hv => ?_⟩
  split at e
  · next ds l =>
    cases e
    have dv := looksV_dv hv l
    cases dv with
    | cons d1 d2 =>
      cases d2
      cases d1 with
      | lst h1 h2 => exact ⟨_, rfl, .inl ⟨_, .inl (.inl (r1.zh _ _ h1)), k G1 al1 H1 _ ev1 r1 (walk_enumL h1 h2)⟩⟩
  · next ds l =>
    cases e
    have dv := looksV_dv hv l
    cases dv with
    | cons d1 d2 =>
      cases d2
      cases d1 with
      | tup h1 h2 => exact ⟨_, rfl, .inr ⟨_, Same.tupS r1.zh h1, k G1 al1 H1 _ ev1 r1 (walk_enumT h1 h2)⟩⟩
  · cases e
end
end MI

namespace MI
open PySem PySem.Spec L2

theorem wipeM_at (sl : List (Option D)) {i : Nat} : ∀ {vs : List Nat}, (wipeM sl vs)[i]? = if i ∈ vs then (if i < sl.length then some none else none) else sl[i]?
  | [] => by simp [wipeM]
  | v :: vs => by
    rw [wipeM]
    by_cases e : v = i
    · subst e
      simp only [List.mem_cons, true_or, if_true]
      by_cases hl : v < sl.length
      · rw [List.getElem?_set_self (by rw [wipeM_len]; exact hl), if_pos hl]
      · rw [List.getElem?_eq_none (by rw [List.length_set, wipeM_len]; omega), if_neg hl]
    · rw [List.getElem?_set_ne e, wipeM_at sl]
      have : (i ∈ v :: vs) ↔ i ∈ vs := by simp [Ne.symm e]
      simp only [this]
theorem wipeM_sub {sl : List (Option D)} {vs ws : List Nat} (h : ∀ j ∈ ws, j ∈ vs) : wipeM (wipeM sl ws) vs = wipeM sl vs := by
  apply List.ext_getElem?
  intro i
  rw [wipeM_at (wipeM sl ws), wipeM_len]
  by_cases hn : i ∈ vs
  · rw [if_pos hn, wipeM_at sl (vs := vs), if_pos hn]
  · rw [if_neg hn, wipeM_at sl (vs := ws), if_neg fun z => hn (h i z), wipeM_at sl (vs := vs), if_neg hn]
theorem wipe_at (σ : St) {i : Nat} : ∀ {vs : List Nat}, (wipe σ vs)[i]? = if i ∈ vs then (if i < σ.length then some none else none) else σ[i]?
  | [] => by simp [wipe]
  | v :: vs => by
    rw [wipe]
    by_cases e : v = i
    · subst e
      simp only [List.mem_cons, true_or, if_true]
      by_cases hl : v < σ.length
      · rw [List.getElem?_set_self (by rw [wipe_length]; exact hl), if_pos hl]
      · rw [List.getElem?_eq_none (by rw [List.length_set, wipe_length]; omega), if_neg hl]
    · rw [List.getElem?_set_ne e, wipe_at σ]
      have : (i ∈ v :: vs) ↔ i ∈ vs := by simp [Ne.symm e]
      simp only [this]
theorem wipe_sub {σ : St} {vs ws : List Nat} (h : ∀ j ∈ ws, j ∈ vs) : wipe (wipe σ ws) vs = wipe σ vs := by
  apply List.ext_getElem?
  intro i
  rw [wipe_at (wipe σ ws), wipe_length]
  by_cases hn : i ∈ vs
  · rw [if_pos hn, wipe_at σ (vs := vs), if_pos hn]
  · rw [if_neg hn, wipe_at σ (vs := ws), if_neg fun z => hn (h i z), wipe_at σ (vs := vs), if_neg hn]

theorem del_put {G : Gh} {a : Addr} {t : Tag} {o : HO} : delG (putG G a t o) a = delG G a := by
  funext b
  by_cases e : b = a
  · subst e; rw [delG_same, delG_same]
  · rw [delG_ne e, putG_ne e, delG_ne e]
theorem ev_del {G G' : Gh} {al al' : List Addr} {a : Addr} (e : Ev G al G' al') : Ev (delG G a) al (delG G' a) al' := by
  refine ⟨fun b o h => ?_, fun b o h => ?_, e.al⟩
  · by_cases hb : b = a
    · subst hb; rw [delG_same] at h; cases h
    · rw [delG_ne hb] at h ⊢; exact e.frz b o h
  · by_cases hb : b = a
    · subst hb; rw [delG_same] at h; cases h
    · rw [delG_ne hb] at h ⊢; exact e.frm b o h
theorem zof_del {G : Gh} {a : Addr} {o : HO} (h : G a = some (.frm, o)) : Zof (delG G a) = Zof G := by
  funext b
  unfold Zof
  by_cases e : b = a
  · subst e; rw [delG_same, h]
  · rw [delG_ne e]
/-- seen through what is built, the frozen part goes on -/
theorem evz_of {G G' : Gh} {al al' : List Addr} {a : Addr} {o : HO} (h : G a = some (.frm, o)) (e : Ev (delG G a) al (delG G' a) al') : EvZ G al G' al' := by
  refine ⟨fun b u hb => ?_, e.al⟩
  have ne : b ≠ a := by intro z; subst z; rw [h] at hb; cases hb
  have := e.frz b u (by rw [delG_ne ne]; exact hb)
  rw [delG_ne ne] at this
  exact this
section
variable {cls : Nat → Addr} {own : Nat → Bool} {K : KX} {tg : Tg} {ft : Den Bool} {fe : Den D} {vs : List Nat}
/-- the inner loop: D0 grows by what comes -/
theorem inner_of (hsub : ∀ j ∈ tgSlots tg, j ∈ vs) {G1 : Gh} {al1 : List Addr} {m1 m9 : MS} {σ : St} {H1 : Hp} {J : It} {ds zs accD : List D} {acc : List V} {D0 : Addr} {Nx : Hp → Prop} (r1 : Rst K cls own G1 al1 m1 σ H1) (wk : WalkD K cls own J ds G1 al1) (g1 : G1 D0 = some (.frm, .lst acc))
    (c1 : DVs K (Zof G1) al1 acc accD) (e1 : lcLoop vs tg ft fe ds m1 = .ok zs m9) (hN : accD.length + zs.length ≤ sizeLine)
    (k : ∀ G' al' acc' H', Ev (delG G1 D0) al1 (delG G' D0) al' → Rst K cls own G' al' { m9 with sl := wipeM m9.sl vs } (wipe σ vs) H' → G' D0 = some (.frm, .lst acc') → DVs K (Zof G') al' acc' (accD ++ zs) → Nx H') :
    ∃ W1 : Nat → Nat → Hp → Prop, (∃ m, W1 0 m H1) ∧ ∀ j n H, W1 j n H →
      (J.stop j H ∧ Nx H) ∨ (J.go j H ∧ ∃ Nx1 : Hp → Prop, (∀ H', Nx1 H' → ∃ k', k' < n ∧ W1 (j + 1) k' H') ∧ ∀ x H', J.yld j H x H' → tG K cls own tg x (wipe σ vs) H' fun σ3 H5 => wipe σ3 vs = wipe σ vs ∧ tDb K cls own ft σ3 H5 fun b H6 =>
        if b = true then tD K cls own fe σ3 H6 fun y H7 => ∃ acc, H7 D0 = some (.lst acc) ∧ acc.length < sizeLine ∧ Nx1 (upd H7 D0 (.lst (acc ++ [y]))) else Nx1 H6) := by
  let W : Nat → Nat → Hp → Prop := fun i n H => n = ds.length - i ∧ i ≤ ds.length ∧ ∃ G2 al2 m2 acc2 aD ys, Ev (delG G1 D0) al1 (delG G2 D0) al2 ∧ Rst K cls own G2 al2 { m2 with sl := wipeM m2.sl vs } (wipe σ vs) H ∧ G2 D0 = some (.frm, .lst acc2) ∧
    DVs K (Zof G2) al2 acc2 aD ∧ lcLoop vs tg ft fe (ds.drop i) m2 = .ok ys m9 ∧ aD ++ ys = accD ++ zs
  refine ⟨W, ⟨ds.length, rfl, Nat.zero_le _, G1, al1, m1, acc, accD, zs, .refl, r1.wipe, g1, c1, e1, rfl⟩, ?_⟩
  rintro i n H2 ⟨rfl, hi, G2, al2, m2, acc2, aD, ys, ev2, r2, g2, c2, e2, ez⟩
  have evG : EvZ G1 al1 G2 al2 := evz_of g1 ev2
  by_cases hlt : i < ds.length
  · refine .inr ⟨wk.goes G2 al2 _ _ H2 i evG r2 hlt, W (i + 1) (ds.length - (i + 1)), fun H3 q3 => ⟨_, by omega, q3⟩, fun x H3 y => ?_⟩
    have hd : ds[i]? = some ds[i] := List.getElem?_eq_getElem hlt
    obtain ⟨G3, ev3, r3, dv, keep3⟩ := wk.yields G2 al2 _ _ H2 i x H3 _ evG r2 hd y
    have g3 : G3 D0 = some (.frm, .lst acc2) := ev3.frm _ _ g2
    rw [List.drop_eq_getElem_cons hlt, lcLoop] at e2
    dsimp only at e2
    split at e2
    · cases e2
    · next sl e3 =>
      refine ⟨G3, al2, _, _, sl, r3, dv, e3, fun σ4 r4 b4 => ⟨wipe_eq hsub b4, ?_⟩⟩
      have weq : wipe σ4 vs = wipe σ vs := wipe_eq (σ := σ) hsub b4
      split at e2
      · next m5 e5 =>
        refine ⟨G3, al2, _, true, m5, r4, e5, fun G5 al5 H5 ev5 r5 => iteT' ?_⟩
        split at e2
        · next y5 m6 e6 =>
          split at e2
          · next ys6 m7 e7 =>
            cases e2
            refine ⟨G5, al5, m5, y5, m6, r5, e6, fun G6 al6 v6 H6 ev6 r6 dv6 => ?_⟩
            have g6 : G6 D0 = some (.frm, .lst acc2) := ev6.frm _ _ (ev5.frm _ _ g3)
            have evs : Ev G2 al2 G6 al6 := ev3.trans (ev5.trans ev6)
            have c6 : DVs K (Zof G6) al6 acc2 aD := c2.ev evs
            have hlen : acc2.length < sizeLine := by
              have h1 := c2.length
              have h3 := congrArg List.length ez
              simp only [List.length_append, List.length_cons] at h3
              omega
            obtain ⟨_, r7, hz7⟩ := r6.reframe (o' := .lst (acc2 ++ [v6])) g6
            refine ⟨acc2, r6.hst.gh _ _ _ g6, hlen, rfl, hlt, putG G6 D0 .frm (.lst (acc2 ++ [v6])), al6, m6, acc2 ++ [v6], aD ++ [y5], ys6, ?_, ?_, putG_same, ?_, e7, by rw [← ez]; simp⟩
            · rw [del_put]; exact ev2.trans (ev_del evs)
            · have := r7.wipe (vs := vs)
              rw [weq] at this
              exact this
            · rw [hz7]; exact c6.append (.cons dv6 .nil)
          · cases e2
        · cases e2
      · next m5 e5 =>
        refine ⟨G3, al2, _, false, m5, r4, e5, fun G5 al5 H5 ev5 r5 => iteF' ?_⟩
        have evs : Ev G2 al2 G5 al5 := ev3.trans ev5
        refine ⟨rfl, hlt, G5, al5, m5, acc2, aD, ys, ev2.trans (ev_del evs), ?_, ev5.frm _ _ g3, c2.ev evs, e2, ez⟩
        have := r5.wipe (vs := vs)
        rw [weq] at this
        exact this
      · cases e2
  · have en : i = ds.length := by omega
    subst en
    rw [List.drop_length] at e2
    cases e2
    have ez : aD = accD ++ zs := by rw [← ez]; simp
    subst ez
    exact .inl ⟨wk.stops G2 al2 _ _ H2 evG r2, k G2 al2 acc2 H2 ev2 r2 g2 c2⟩
end

def lcLoop2 (vs : List Nat) (tg : Tg) (tt : Den Bool) (src1 : Den (List D)) (inner : List D → Den (List D)) : List D → Den (List D)
  | [] => .ret []
  | d :: ds => fun m => match tgSet tg d (wipeM m.sl vs) with
    | none => .bad
    | some sl => match tt { m with sl := sl } with
      | .ok true m2 => match src1 m2 with
        | .ok ds1 m3 => match inner ds1 m3 with
          | .ok ys m4 => match lcLoop2 vs tg tt src1 inner ds m4 with
            | .ok zs m5 => .ok (ys ++ zs) m5
            | .bad => .bad
          | .bad => .bad
        | .bad => .bad
      | .ok false m2 => lcLoop2 vs tg tt src1 inner ds m2
      | .bad => .bad
def eLc2 (src : Den (List D)) (vs : List Nat) (tg : Tg) (tt : Den Bool) (src1 : Den (List D)) (vs1 : List Nat) (tg1 : Tg) (tt1 : Den Bool) (te : Den D) : Den D := src.bind fun ds => fun m => match lcLoop2 vs tg tt src1 (lcLoop vs1 tg1 tt1 te) ds m with
  | .ok ys m' => if fitL ys.length then .ok (.lst ys) { m' with sl := backM m.sl m'.sl vs } else .bad
  | .bad => .bad
section
variable {cls : Nat → Addr} {own : Nat → Bool} {K : KX} {src src1 : Den (List D)} {tg tg1 : Tg} {ft ft1 : Den Bool} {fe : Den D} {vs vs1 : List Nat}
theorem tLc2_of (hv : ∀ i ∈ vs, own i = false) (hsub : ∀ j ∈ tgSlots tg, j ∈ vs) (hsub1 : ∀ j ∈ tgSlots tg1, j ∈ vs1) (hv1 : ∀ j ∈ vs1, j ∈ vs) {σ : St} {H : Hp} {Q : VK} (q : tF K cls own (eLc2 src vs tg ft src1 vs1 tg1 ft1 fe) σ H Q) :
    tLc2 (tI K cls own src) (tG K cls own tg) (tDb K cls own ft) (tI K cls own src1) (tG K cls own tg1) (tDb K cls own ft1) (tD K cls own fe) vs vs1 σ H Q := by
  obtain ⟨G, al, m, d, m', r, e, k⟩ := q
  obtain ⟨ds, m1, e1, e⟩ := bind_ok e
  split at e
  case h_2 => cases e
  next ys m9 e9 =>
  split at e
  case isFalse => cases e
  next hfit =>
  cases e
  refine ⟨G, al, m, ds, m1, r, e1, fun G1 al1 H1 J ev1 r1 wk D0 hD => ?_⟩
  have hn : G1 D0 = none := r1.hst.nog hD
  let W : Nat → Nat → Hp → Prop := fun i n H => n = ds.length - i ∧ i ≤ ds.length ∧ ∃ G2 al2 m2 acc accD zs, Ev G1 al1 (delG G2 D0) al2 ∧ Rst K cls own G2 al2 { m2 with sl := wipeM m2.sl vs } (wipe σ vs) H ∧ G2 D0 = some (.frm, .lst acc) ∧
    DVs K (Zof G2) al2 acc accD ∧ lcLoop2 vs tg ft src1 (lcLoop vs1 tg1 ft1 fe) (ds.drop i) m2 = .ok zs m9 ∧ accD ++ zs = ys
  have hdel : delG (putG G1 D0 .frm (.lst [])) D0 = G1 := by
    funext b
    by_cases e : b = D0
    · subst e; rw [delG_same, hn]
    · rw [delG_ne e, putG_ne e]
  refine ⟨W, ⟨ds.length, rfl, Nat.zero_le _, putG G1 D0 .frm (.lst []), al1, m1, [], [], ys, by rw [hdel]; exact .refl, ((r1.wipe (vs := vs)).fresh hD).tag hn upd_same, putG_same, .nil, e9, rfl⟩, ?_⟩
  rintro i n H2 ⟨rfl, hi, G2, al2, m2, acc, accD, zs, ev2, r2, g2, c2, e2, ez⟩
  have evG : EvZ G1 al1 G2 al2 := by
    refine ⟨fun b u hb => ?_, ev2.al⟩
    have ne : b ≠ D0 := by intro z; subst z; rw [hn] at hb; cases hb
    have := ev2.frz b u hb
    rw [delG_ne ne] at this
    exact this
  by_cases hlt : i < ds.length
  · refine .inr ⟨wk.goes G2 al2 _ _ H2 i evG r2 hlt, W (i + 1) (ds.length - (i + 1)), fun H3 q3 => ⟨_, by omega, q3⟩, fun x H3 y => ?_⟩
    have hd : ds[i]? = some ds[i] := List.getElem?_eq_getElem hlt
    obtain ⟨G3, ev3, r3, dv, keep3⟩ := wk.yields G2 al2 _ _ H2 i x H3 _ evG r2 hd y
    have g3 : G3 D0 = some (.frm, .lst acc) := ev3.frm _ _ g2
    rw [List.drop_eq_getElem_cons hlt, lcLoop2] at e2
    dsimp only at e2
    split at e2
    · cases e2
    · next sl e3 =>
      refine ⟨G3, al2, _, _, sl, r3, dv, e3, fun σ4 r4 b4 => ⟨wipe_eq hsub b4, ?_⟩⟩
      have weq : wipe σ4 vs = wipe σ vs := wipe_eq (σ := σ) hsub b4
      split at e2
      · next m5 e5 =>
        refine ⟨G3, al2, _, true, m5, r4, e5, fun G5 al5 H5 ev5 r5 => iteT' ?_⟩
        split at e2
        · next ds1 m6 e6 =>
          split at e2
          · next ys6 m7 e7 =>
            split at e2
            · next zs8 m8 e8 =>
              cases e2
              refine ⟨G5, al5, m5, ds1, m6, r5, e6, fun G6 al6 H6 J1 ev6 r6 wk1 => ?_⟩
              have evs : Ev G2 al2 G6 al6 := ev3.trans (ev5.trans ev6)
              have g6 : G6 D0 = some (.frm, .lst acc) := evs.frm _ _ g2
              have hl : accD.length + ys6.length ≤ sizeLine := by
                have h2 : ys.length ≤ sizeLine := fitL_le hfit
                have h3 := congrArg List.length ez
                simp only [List.length_append] at h3
                omega
              refine inner_of hsub1 r6 wk1 g6 (c2.ev evs) e7 hl fun G7 al7 acc7 H7 ev7 r7 g7 c7 => ?_
              refine ⟨rfl, hlt, G7, al7, m7, acc7, accD ++ ys6, zs8, ev2.trans ((ev_del evs).trans ev7), ?_, g7, c7, e8, by rw [← ez]; simp⟩
              have := r7.wipe (vs := vs)
              rw [wipe_sub hv1, weq] at this
              have e0 : wipeM (wipeM m7.sl vs1) vs = wipeM m7.sl vs := wipeM_sub hv1
              simp only [e0] at this
              exact this
            · cases e2
          · cases e2
        · cases e2
      · next m5 e5 =>
        refine ⟨G3, al2, _, false, m5, r4, e5, fun G5 al5 H5 ev5 r5 => iteF' ?_⟩
        have evs : Ev G2 al2 G5 al5 := ev3.trans ev5
        refine ⟨rfl, hlt, G5, al5, m5, acc, accD, zs, ev2.trans (ev_del evs), ?_, ev5.frm _ _ g3, c2.ev evs, e2, ez⟩
        have := r5.wipe (vs := vs)
        rw [weq] at this
        exact this
      · cases e2
  · have en : i = ds.length := by omega
    subst en
    rw [List.drop_length] at e2
    cases e2
    have ez : accD = ys := by rw [← ez]; simp
    subst ez
    refine .inl ⟨wk.stops G2 al2 _ _ H2 evG r2, ?_⟩
    obtain ⟨r3, hz3⟩ := r2.unframe g2
    have rb := r1.back ev2 r3 hv
    exact k (delG G2 D0) al2 D0 (.lst acc) H2 (ev1.trans ev2) rb (r2.hst.gh _ _ _ g2) delG_same (by rw [hz3]; exact c2)
end
section
variable {cls : Nat → Addr} {own : Nat → Bool} {X : Cx} {elt te iter te1 iter1 : Expr} {ifs ifs1 : List Expr} {scope : Scope} {ow : List (Str × Nat)} {vs1 : List Nat} {pos py spos : Pos} {src src1 : Den (List D)} {tg tg1 : Tg} {ft ft1 : Den Bool} {fe : Den D} {i : Nat} {y : Str}
theorem sf_lc2 (hc : X.calm = true) (hN : X.N.Nodup) (hi : SI cls own X te iter src) (ok : BlkOk X.N X.env.scope scope ow) (hv1 : ∀ i ∈ vs1, i ∈ ow.map (·.2))
    (hg : ∀ (s : Shared) (H : Hp) (C : Addr) (cl : List (Str × Addr)) (fp : List Addr), SG cls own (X.blk s H scope (compEnvC scope cl C X.env) fp) te tg)
    (ht : ∀ (s : Shared) (H : Hp) (C : Addr) (cl : List (Str × Addr)) (fp : List Addr), SBs cls own (X.blk s H scope (compEnvC scope cl C X.env) fp) ifs ft)
    (hi1 : ∀ (s : Shared) (H : Hp) (C : Addr) (cl : List (Str × Addr)) (fp : List Addr), SI cls own (X.blk s H scope (compEnvC scope cl C X.env) fp) te1 iter1 src1)
    (hg1 : ∀ (s : Shared) (H : Hp) (C : Addr) (cl : List (Str × Addr)) (fp : List Addr), SG cls own (X.blk s H scope (compEnvC scope cl C X.env) fp) te1 tg1)
    (ht1 : ∀ (s : Shared) (H : Hp) (C : Addr) (cl : List (Str × Addr)) (fp : List Addr), SBs cls own (X.blk s H scope (compEnvC scope cl C X.env) fp) ifs1 ft1)
    (he : ∀ (s : Shared) (H : Hp) (C : Addr) (cl : List (Str × Addr)) (fp : List Addr), SE cls own (X.blk s H scope (compEnvC scope cl C X.env) fp) elt fe)
    (hv : ∀ i ∈ ow.map (·.2), own i = false) (hsub : ∀ j ∈ tgSlots tg, j ∈ ow.map (·.2)) (hsub1 : ∀ j ∈ tgSlots tg1, j ∈ vs1) (hs : ∀ x, foldedSetIterable iter X.env x = pure x := by intro _; rfl) (hs1 : ∀ env x, foldedSetIterable iter1 env x = pure x := by intro _ _; rfl) :
    SF cls own X (.ListComp elt [⟨te, iter, ifs, 0⟩, ⟨te1, iter1, ifs1, 0⟩] scope pos) (eLc2 src (ow.map (·.2)) tg ft src1 vs1 tg1 ft1 fe) :=
  pe_imp (pe_lc2 (own := ow) (vs1 := vs1) (g := tG X.kx cls own tg) (tt := tDb X.kx cls own ft) (wi1 := tI X.kx cls own src1) (g1 := tG X.kx cls own tg1) (tt1 := tDb X.kx cls own ft1) (te := tD X.kx cls own fe) hc hN hi ok hv1 hg ht hi1 hg1 ht1 he hs hs1) fun _ _ _ q => tLc2_of hv hsub hsub1 hv1 q
theorem ss_setLc2 (ho : own i = false) (hc : X.calm = true) (hN : X.N.Nodup) (hy : X.N[i]? = some y) (hyl : X.env.scope.names.lookup y = some .local)
    (hsw : swapsWith (.ListComp elt [⟨te, iter, ifs, 0⟩, ⟨te1, iter1, ifs1, 0⟩] scope pos) (some (.Name y py)) spos.line X.env = pure true) (hi : SI cls own X te iter src) (ok : BlkOk X.N X.env.scope scope ow) (hv1 : ∀ i ∈ vs1, i ∈ ow.map (·.2))
    (hg : ∀ (s : Shared) (H : Hp) (C : Addr) (cl : List (Str × Addr)) (fp : List Addr), SG cls own (X.blk s H scope (compEnvC scope cl C X.env) fp) te tg)
    (ht : ∀ (s : Shared) (H : Hp) (C : Addr) (cl : List (Str × Addr)) (fp : List Addr), SBs cls own (X.blk s H scope (compEnvC scope cl C X.env) fp) ifs ft)
    (hi1 : ∀ (s : Shared) (H : Hp) (C : Addr) (cl : List (Str × Addr)) (fp : List Addr), SI cls own (X.blk s H scope (compEnvC scope cl C X.env) fp) te1 iter1 src1)
    (hg1 : ∀ (s : Shared) (H : Hp) (C : Addr) (cl : List (Str × Addr)) (fp : List Addr), SG cls own (X.blk s H scope (compEnvC scope cl C X.env) fp) te1 tg1)
    (ht1 : ∀ (s : Shared) (H : Hp) (C : Addr) (cl : List (Str × Addr)) (fp : List Addr), SBs cls own (X.blk s H scope (compEnvC scope cl C X.env) fp) ifs1 ft1)
    (he : ∀ (s : Shared) (H : Hp) (C : Addr) (cl : List (Str × Addr)) (fp : List Addr), SE cls own (X.blk s H scope (compEnvC scope cl C X.env) fp) elt fe)
    (hv : ∀ i ∈ ow.map (·.2), own i = false) (hsub : ∀ j ∈ tgSlots tg, j ∈ ow.map (·.2)) (hsub1 : ∀ j ∈ tgSlots tg1, j ∈ vs1) (hs : ∀ x, foldedSetIterable iter X.env x = pure x := by intro _; rfl) (hs1 : ∀ env x, foldedSetIterable iter1 env x = pure x := by intro _ _; rfl) :
    SS cls own X (.Assign [.Name y py] (.ListComp elt [⟨te, iter, ifs, 0⟩, ⟨te1, iter1, ifs1, 0⟩] scope pos) spos) (sSet i (eLc2 src (ow.map (·.2)) tg ft src1 vs1 tg1 ft1 fe)) := by
  refine ps_imp (ps_setLc2 (own := ow) (vs1 := vs1) (g := tG X.kx cls own tg) (tt := tDb X.kx cls own ft) (wi1 := tI X.kx cls own src1) (g1 := tG X.kx cls own tg1) (tt1 := tDb X.kx cls own ft1) (te := tD X.kx cls own fe) hc hN hy hyl hsw hi ok hv1 hg ht hi1 hg1 ht1 he hs hs1) fun E σ H q => ?_
  obtain ⟨G, al, m, fl, m', r, e, k⟩ := q
  obtain ⟨d, m1, e1, e⟩ := bind_ok e
  cases e
  refine tLc2_of hv hsub hsub1 hv1 ⟨G, al, m, d, m1, r, e1, fun G1 al1 p o H1 ev1 r1 hp hn c => ?_⟩
  have ev2 : Ev G1 al1 (putG G1 p .frz o) al1 := ev_put hn
  exact k _ al1 _ H1 (ev1.trans ev2) ((r1.tag hn hp).set (CO.frz (zof_of putG_same) (c.mono ev2.same ev2.al)) ho)
end
end MI

namespace MI
open PySem PySem.Spec L2

/-! ### how the parameters are filled -/
inductive Src where
  | p (i : Nat) | k (i : Nat) | d (i : Nat)
def arr {α : Type} (sp : List Src) (us mv ws : List α) : List α := sp.filterMap fun s => match s with
  | .p i => us[i]?
  | .k i => ws[i]?
  | .d i => mv[i]?
theorem arr_vals {sp : List Src} {vs mz zs : List V} {us mv ws : List Value} (h1 : Vals vs us) (h2 : Vals mz mv) (h3 : Vals zs ws) : Vals (arr sp vs mz zs) (arr sp us mv ws) := by
  have one : ∀ {xs : List V} {ys : List Value} (i : Nat), Vals xs ys → (∃ x y, xs[i]? = some x ∧ ys[i]? = some y ∧ RelV x y) ∨ (xs[i]? = none ∧ ys[i]? = none) := by
    intro xs ys i h
    cases q : xs[i]? with
    | none => exact .inr ⟨rfl, h.none_of q⟩
    | some x => obtain ⟨u, e, r⟩ := h.get q; exact .inl ⟨x, u, rfl, e, r⟩
  unfold arr
  induction sp with
  | nil => exact .nil
  | cons s sp ih =>
    rw [List.filterMap_cons, List.filterMap_cons]
    cases s with
    | p i =>
      rcases one i h1 with ⟨x, y, e1, e2, r⟩ | ⟨e1, e2⟩
      · simp only [e1, e2]; exact .cons r ih
      · simp only [e1, e2]; exact ih
    | k i =>
      rcases one i h3 with ⟨x, y, e1, e2, r⟩ | ⟨e1, e2⟩
      · simp only [e1, e2]; exact .cons r ih
      · simp only [e1, e2]; exact ih
    | d i =>
      rcases one i h2 with ⟨x, y, e1, e2, r⟩ | ⟨e1, e2⟩
      · simp only [e1, e2]; exact .cons r ih
      · simp only [e1, e2]; exact ih
theorem arr_dvs {K : KX} {Z : Hp} {al : List Addr} {sp : List Src} {vs mz zs : List V} {us mv ws : List D} (h1 : DVs K Z al vs us) (h2 : DVs K Z al mz mv) (h3 : DVs K Z al zs ws) : DVs K Z al (arr sp vs mz zs) (arr sp us mv ws) := by
  have one : ∀ {xs : List V} {ys : List D} (i : Nat), DVs K Z al xs ys → (∃ x y, xs[i]? = some x ∧ ys[i]? = some y ∧ DV K Z al x y) ∨ (xs[i]? = none ∧ ys[i]? = none) := by
    intro xs ys i h
    cases q : xs[i]? with
    | none =>
      have h0 := h.length
      have h1 : xs.length ≤ i := List.getElem?_eq_none_iff.mp q
      exact .inr ⟨rfl, List.getElem?_eq_none_iff.mpr (by omega)⟩
    | some x => obtain ⟨u, e, r⟩ := h.getV q; exact .inl ⟨x, u, rfl, e, r⟩
  unfold arr
  induction sp with
  | nil => exact .nil
  | cons s sp ih =>
    rw [List.filterMap_cons, List.filterMap_cons]
    cases s with
    | p i =>
      rcases one i h1 with ⟨x, y, e1, e2, r⟩ | ⟨e1, e2⟩
      · simp only [e1, e2]; exact .cons r ih
      · simp only [e1, e2]; exact ih
    | k i =>
      rcases one i h3 with ⟨x, y, e1, e2, r⟩ | ⟨e1, e2⟩
      · simp only [e1, e2]; exact .cons r ih
      · simp only [e1, e2]; exact ih
    | d i =>
      rcases one i h2 with ⟨x, y, e1, e2, r⟩ | ⟨e1, e2⟩
      · simp only [e1, e2]; exact .cons r ih
      · simp only [e1, e2]; exact ih
section
variable {K : PySem.W.Frag} {x qual : Str} {params : Arguments} {body : List Stmt} {scope : Scope} {dvs : List V} {kws : List (Str × V)} {f : Addr} {fd : FuncData} {ps : List Str}
/-- a def without defaults, called with keywords -/
theorem kb_plain (F : FunD K x qual params body scope [] [] f fd) (n : Nat) (ks : List Str) (sp : List Src)
    (h : ∀ (kV doc pm : Value) (an : Option Addr) (cdv ct : Value) (us ws : List Value), us.length = n → ws.length = ks.length → bindArgs (PySem.W.fnOf x qual params body scope .none kV doc pm an cdv ct) ⟨us, ks.zip ws⟩ = pure (ps.zip (arr sp us [] ws))) :
    KBn K fd ps n ks (fun us ws => arr sp us [] ws) (fun vs zs => arr sp vs [] zs) := by
  obtain ⟨oc, od, dV, kV, doc, pm, an, cdv, ct, osl, rfl, lk, hcd, hD, hK⟩ := F.ex
  rcases hD with ⟨_, rfl⟩ | ⟨e, _⟩
  · exact ⟨fun s us ws X l1 l2 => .of_eq (h kV doc pm an cdv ct us ws l1 l2), fun r1 r2 => arr_vals r1 .nil r2⟩
  · exact absurd rfl e
/-- keyword-only defaults ms are lacking -/
theorem kb_only (F : FunD K x qual params body scope [] kws f fd) (n : Nat) (ks : List Str) (ms : List (Str × V)) (sp : List Src) (hk : kws ≠ []) (hms : ∀ q ∈ ms, q ∈ kws)
    (h : ∀ (D : Addr) (doc pm : Value) (an : Option Addr) (cdv ct : Value) (us mv ws : List Value), us.length = n → mv.length = ms.length → ws.length = ks.length →
      KwChain D ((ms.map (·.1)).zip mv) (bindArgs (PySem.W.fnOf x qual params body scope .none (.ref D) doc pm an cdv ct) ⟨us, ks.zip ws⟩) (ps.zip (arr sp us mv ws))) :
    ∃ mv : List Value, KBn K fd ps n ks (fun us ws => arr sp us mv ws) (fun vs zs => arr sp vs (ms.map (·.2)) zs) :=
  FunD.kbinds0 F n ks ms (fun us mv ws => arr sp us mv ws) hk hms (fun h1 h2 h3 => arr_vals h1 h2 h3) h
/-- defaults from the j-th on are lacking -/
theorem kb_dflt (F : FunD K x qual params body scope dvs [] f fd) (n : Nat) (ks : List Str) (sp : List Src) (hd : dvs ≠ [])
    (h : ∀ (T : Addr) (kV doc pm : Value) (an : Option Addr) (cdv ct : Value) (us its ws : List Value), us.length = n → its.length = dvs.length → ws.length = ks.length →
      ∃ k, bindArgs (PySem.W.fnOf x qual params body scope (.ref T) kV doc pm an cdv ct) ⟨us, ks.zip ws⟩ = seqItems? (.ref T) >>= k ∧ k (some its.toArray) = pure (ps.zip (arr sp us its ws))) :
    ∃ mv : List Value, KBn K fd ps n ks (fun us ws => arr sp us mv ws) (fun vs zs => arr sp vs dvs zs) := by
  obtain ⟨oc, od, dV, kV, doc, pm, an, cdv, ct, osl, rfl, lk, hcd, hD, hK⟩ := F.ex
  rcases hD with ⟨e, _⟩ | ⟨_, T, o, its, m, rfl, lT, oT, rT⟩
  · exact absurd e hd
  · refine ⟨its, ⟨fun s us ws X l1 l2 => ?_, fun r1 r2 => arr_vals r1 rT r2⟩⟩
    obtain ⟨k, e1, e2⟩ := h T kV doc pm an cdv ct us its ws l1 rT.length.symm l2
    refine BindsTo.of_looks fun M => ?_
    rw [e1]
    exact looks_items X lT oT (.of_pure e2)
end
abbrev SKs (cls : Nat → Addr) (own : Nat → Bool) (X : Cx) (ks : List Keyword) (f : Den (List Hd)) : Prop := PK X ks (tHs X.kx cls own f)
theorem pk_imp {X : Cx} {e : List Keyword} {t t' : TA} (h : PK X e t) (i : ∀ σ H Q, t' σ H Q → t σ H Q) : PK X e t' := ⟨fun pos pins s σ H Q I q => h.run pos pins s σ H Q I (i σ H Q q)⟩
def eCallK (fn : Fn) (sp : List Src) (dd : List D) (fs fk : Den (List D)) : Den D := fs.bind fun ds => fk.bind fun es => fun m => match fn (arr sp ds dd es) m.st with
  | some (d, st) => .ok d { m with st := st }
  | none => .bad
theorem hvs_len {K : KX} {own : Nat → Bool} {G : Gh} {al : List Addr} {σ : St} : ∀ {vs : List V} {hs : List Hd}, HVs K own G al σ vs hs → vs.length = hs.length
  | _, _, .nil => rfl
  | _, _, .cons _ r => by rw [List.length_cons, List.length_cons, hvs_len r]
section
variable {cls : Nat → Addr} {own : Nat → Bool} {X : Cx} {k n : Nat} {f : Addr} {fd : FuncData} {ps ks : List Str} {fn : Fn} {x : Str} {p pos kpos : Pos} {e : Expr} {es : List Expr} {fs fk : Den (List Hd)} {kws : List Keyword} {sp : List Src} {dvs : List V} {dds : List D} {mv : List Value} {nm : Option Str} {fe : Den Hd}
theorem sk_nil : SKs cls own X [] aNil := pk_imp pk_nil fun σ H Q ⟨G, al, m, d, m', r, e, k⟩ => by cases e; exact k G al _ H .refl r .nil
theorem sk_cons (h : SH cls own X e fe) (hr : SKs cls own X kws fk) : SKs cls own X (⟨nm, e, kpos⟩ :: kws) (aCons fe fk) := by
  refine pk_imp (pk_cons h hr) fun σ H Q q => ?_
  obtain ⟨G, al, m, d, m', r, e, k⟩ := q
  obtain ⟨d0, m1, e1, e2⟩ := bind_ok e
  obtain ⟨ds, m2, e3, e4⟩ := bind_ok e2
  cases e4
  refine ⟨G, al, m, d0, m1, r, e1, fun G' al' v H' ev r' hv => ?_⟩
  exact ⟨G', al', m1, ds, _, r', e3, fun G2 al2 vs H2 ev2 r2 hvs => k G2 al2 _ H2 (ev.trans ev2) r2 (.cons (hv.ev ev2) hvs)⟩
theorem aNil_len {m m' : MS} {hs : List Hd} (h : aNil m = .ok hs m') : hs.length = 0 := by cases h; rfl
theorem aCons_len {f : Den Hd} {r : Den (List Hd)} {j : Nat} (hr : ∀ m hs m', r m = .ok hs m' → hs.length = j) {m m' : MS} {hs : List Hd} (h : aCons f r m = .ok hs m') : hs.length = j + 1 := by
  obtain ⟨d0, m1, e1, e2⟩ := bind_ok h
  obtain ⟨ds, m2, e3, e4⟩ := bind_ok e2
  cases e4
  rw [List.length_cons, hr _ _ _ e3]
/-- what a call with keywords needs of the two lists -/
theorem callK_core {np : Nat} (hnp : ∀ vs zs : List V, vs.length = n → zs.length = ks.length → (arr sp vs dvs zs).length = np) (hdd : DVs X.kx (fun _ => none) [] dvs dds) (hl1 : ∀ m hs m', fs m = .ok hs m' → hs.length = n) (hl2 : ∀ m hs m', fk m = .ok hs m' → hs.length = ks.length)
    {σ : St} {H : Hp} {Q : VK} (q : tD X.kx cls own (eCallK fn sp dds (aVals fs) (aVals fk)) σ H Q) :
    tHs X.kx cls own fs σ H fun vs H1 => tHs X.kx cls own fk σ H1 fun zs H2 => vs.length = n ∧ zs.length = ks.length ∧ SpD X.kx cls np fn (arr sp vs dvs zs) H2 Q L2.E0 := by
  obtain ⟨G, al, m, d, m', r, e, k⟩ := q
  obtain ⟨as, m1, e1, e⟩ := bind_ok e
  obtain ⟨bs, m2, e2, e⟩ := bind_ok e
  obtain ⟨hs, e1, l1⟩ := aVals_ok e1
  obtain ⟨gs, e2, l2⟩ := aVals_ok e2
  split at e
  · next d0 st0 e3 =>
    cases e
    refine ⟨G, al, m, hs, m1, r, e1, fun G1 al1 vs H1 ev1 r1 hv1 => ⟨G1, al1, m1, gs, m2, r1, e2, fun G2 al2 zs H2 ev2 r2 hv2 => ?_⟩⟩
    have n1 : vs.length = n := (hvs_len hv1).trans (hl1 _ _ _ e1)
    have n2 : zs.length = ks.length := (hvs_len hv2).trans (hl2 _ _ _ e2)
    have d1 := looksV_dv (hv1.ev ev2) l1
    have d2 := looksV_dv hv2 l2
    have hdd' : DVs X.kx (Zof G2) al2 dvs dds := hdd.mono (fun a o (z : (none : Option HO) = some o) => nomatch z) (List.nil_prefix)
    exact ⟨n1, n2, call_core (t := tNil) (E := L2.E0) (hnp vs zs n1 n2) r2 (arr_dvs d1 hdd' d2) e3 fun G' al' v H' ev r' dvv => k G' al' v H' ((ev1.trans ev2).trans ev) r' dvv⟩
  · cases e
theorem se_callK {np : Nat} (F : FnOk X.prog X.w X.K X.mg X.base CX0 k f fd ps (SpD X.kx cls np fn)) (hr : Room k X.A) (hg : Gl X x) (hm : X.mg x = some (.ref f)) (hk : PySem.W.keepIn X.K (.ref f) = true) (hb : KBn X.K fd ps n ks (fun us ws => arr sp us mv ws) (fun vs zs => arr sp vs dvs zs))
    (hdd : DVs X.kx (fun _ => none) [] dvs dds) (ha : SHs cls own X (e :: es) fs) (hkw : SKs cls own X kws fk) (hnp : ∀ vs zs : List V, vs.length = n → zs.length = ks.length → (arr sp vs dvs zs).length = np) (hl1 : ∀ m hs m', fs m = .ok hs m' → hs.length = n) (hl2 : ∀ m hs m', fk m = .ok hs m' → hs.length = ks.length)
    (hall : (backToKw pos (keywordEach kws X.env)).all (·.1.isSome) = true := by rfl) (hks : (backToKw pos (keywordEach kws X.env)).filterMap (·.1) = ks := by rfl)
    (hdb : (x == ("__debug__" : Str)) = false := by decide) (he : starEach (e :: es) X.env = (false, eval e X.env) :: starEach es X.env := by rfl)
    (hpl : ((backTo pos (starEach (e :: es) X.env)).any (·.1) || (backToKw pos (keywordEach kws X.env)).any (·.1.isNone)) = false := by rfl) :
    SE cls own X (.Call (.Name x p) (e :: es) kws pos) (eCallK fn sp dds (aVals fs) (aVals fk)) :=
  pe_imp (pe_callN F hr hg hm hk hb (pass0 (X := X)) ha hkw hall hks hdb he hpl) fun σ H Q q => callK_core hnp hdd hl1 hl2 q
theorem se_callK0 {np : Nat} (F : FnOk X.prog X.w X.K X.mg X.base CX0 k f fd ps (SpD X.kx cls np fn)) (hr : Room k X.A) (hg : Gl X x) (hm : X.mg x = some (.ref f)) (hk : PySem.W.keepIn X.K (.ref f) = true) (hb : KBn X.K fd ps 0 ks (fun us ws => arr sp us mv ws) (fun vs zs => arr sp vs dvs zs))
    (hdd : DVs X.kx (fun _ => none) [] dvs dds) (hkw : SKs cls own X kws fk) (hnp : ∀ vs zs : List V, vs.length = 0 → zs.length = ks.length → (arr sp vs dvs zs).length = np) (hl2 : ∀ m hs m', fk m = .ok hs m' → hs.length = ks.length)
    (hall : (backToKw pos (keywordEach kws X.env)).all (·.1.isSome) = true := by rfl) (hks : (backToKw pos (keywordEach kws X.env)).filterMap (·.1) = ks := by rfl)
    (hdb : (x == ("__debug__" : Str)) = false := by decide) (hpl : ((backTo pos (starEach [] X.env)).any (·.1) || (backToKw pos (keywordEach kws X.env)).any (·.1.isNone)) = false := by rfl) :
    SE cls own X (.Call (.Name x p) [] kws pos) (eCallK fn sp dds (aVals aNil) (aVals fk)) := by
  refine pe_imp (t := fun σ H Q => tHs X.kx cls own aNil σ H fun vs H1 => tHs X.kx cls own fk σ H1 fun zs H2 => vs.length = 0 ∧ zs.length = ks.length ∧ SpD X.kx cls np fn (arr sp vs dvs zs) H2 Q L2.E0) ⟨fun pins s σ H Q I h => ?_⟩ fun σ H Q q => callK_core hnp hdd (fun m hs m' h => aNil_len h) hl2 q
  obtain ⟨G, al, m, d, m', r, e, k0⟩ := h
  cases e
  have h1 := k0 G al [] H .refl r .nil
  refine wpAny_Call_Name_kw (ld_glob I hg hm ?_ hdb)
  refine PySem.W.callWith_KW0 (h₀ := X.base) I.ok.mod.kin hk hall (thn (hkw.run pos pins s σ H _ I h1) fun ws s2 ⟨zs, H2, I2, rz, l1, l2, q2⟩ => ⟨I2.kIn, ?_⟩) hpl
  rw [hks]
  exact run_fnN F hr hb (pass0 (X := X)) I2 .nil rz l1 l2 q2
end
end MI

namespace MI
open PySem PySem.Spec L2

/-! ### an owned slot is frozen for the rest of a block -/
def ownL (l : List Nat) : Nat → Bool := fun i => l.contains i
def sFrz (i : Nat) (f : Den Fl) : Den Fl := fun m => match f m with
  | .ok fl m' => .ok fl { m' with sl := m'.sl.set i none }
  | .bad => .bad
section
variable {K : KX} {cls : Nat → Addr} {own own' : Nat → Bool} {G : Gh} {al : List Addr} {m : MS} {σ : St} {H : Hp} {i : Nat}
theorem Rst.freeze (r : Rst K cls own G al m σ H) (h1 : own i = true) (h2 : own' i = false) (h3 : ∀ j, j ≠ i → own' j = own j) : ∃ G', Ev G al G' al ∧ Rst K cls own' G' al m σ H := by
  by_cases hd : ∃ d, m.sl[i]? = some (some d)
  · obtain ⟨d, hd⟩ := hd
    obtain ⟨a, o, s1, g1, c1⟩ := r.own i d hd h1
    have ne : ∀ {b t u}, G b = some (t, u) → t ≠ .slot i → b ≠ a := fun e h z => by subst z; rw [g1] at e; cases e; exact h rfl
    have ev : Ev G al (putG G a .frz o) al := ⟨fun b u e => by rw [putG_ne (ne e (by intro z; cases z))]; exact e, fun b u e => by rw [putG_ne (ne e (by intro z; cases z))]; exact e, List.prefix_refl _⟩
    refine ⟨_, ev, ⟨fun b t u e => ?_, r.hst.len, fun n ob e => ?_⟩, r.len, fun j e hj hoj => ?_, fun j e hj hoj => ?_⟩
    · by_cases hb : b = a
      · subst hb; rw [putG_same] at e; cases e; exact r.hst.gh _ _ _ g1
      · rw [putG_ne hb] at e; exact r.hst.gh b t u e
    · obtain ⟨b, q1, q2⟩ := r.hst.sto n ob e
      refine ⟨b, q1, ?_⟩
      unfold SO at q2 ⊢
      cases ob with
      | lst ds =>
        obtain ⟨xs, e1, r1⟩ := q2
        exact ⟨xs, by rw [putG_ne (ne e1 (by intro z; cases z))]; exact e1, r1.ev ev⟩
      | ins c fs => exact q2
    · by_cases hji : j = i
      · subst hji
        rw [hd] at hj; cases hj
        exact ⟨.ref a, s1, CO.frz (zof_of putG_same) (c1.mono ev.same ev.al)⟩
      · obtain ⟨v, q1, q2⟩ := r.val j e hj (by rw [← h3 j hji]; exact hoj)
        exact ⟨v, q1, q2.ev ev⟩
    · have hji : j ≠ i := by intro z; subst z; rw [h2] at hoj; cases hoj
      obtain ⟨b, ob, q1, q2, q3⟩ := r.own j e hj (by rw [← h3 j hji]; exact hoj)
      exact ⟨b, ob, q1, by rw [putG_ne (ne q2 (by intro z; cases z; exact hji rfl))]; exact q2, q3.mono ev.same ev.al⟩
  · refine ⟨G, .refl, r.hst, r.len, fun j e hj hoj => ?_, fun j e hj hoj => ?_⟩
    · have hji : j ≠ i := by intro z; subst z; exact hd ⟨e, hj⟩
      exact r.val j e hj (by rw [← h3 j hji]; exact hoj)
    · have hji : j ≠ i := by intro z; subst z; exact hd ⟨e, hj⟩
      exact r.own j e hj (by rw [← h3 j hji]; exact hoj)
theorem Rst.thaw (r : Rst K cls own' G al m σ H) (h3 : ∀ j, j ≠ i → own' j = own j) : Rst K cls own G al { m with sl := m.sl.set i none } σ H := by
  refine ⟨r.hst, by simp [r.len], fun j e hj hoj => ?_, fun j e hj hoj => ?_⟩
  · rcases getSet hj with ⟨_, _, e1⟩ | ⟨ne, hj⟩
    · cases e1
    · exact r.val j e hj (by rw [h3 j ne]; exact hoj)
  · rcases getSet hj with ⟨_, _, e1⟩ | ⟨ne, hj⟩
    · cases e1
    · exact r.own j e hj (by rw [h3 j ne]; exact hoj)
end
section
variable {cls : Nat → Addr} {own own' : Nat → Bool} {X : Cx} {sts : List Stmt} {f : Den Fl} {i : Nat}
theorem ss_frz0 (h1 : own i = true) (h2 : own' i = false) (h3 : ∀ j, j ≠ i → own' j = own j) (h : SSs cls own' X sts f) : SSs cls own X sts (sFrz i f) := by
  refine pss_imp h fun E σ H q => ?_
  obtain ⟨G, al, m, fl, m', r, e, k⟩ := q
  unfold sFrz at e
  split at e
  case h_2 => cases e
  next fl1 m1 e1 =>
  cases e
  obtain ⟨G1, ev1, r1⟩ := r.freeze h1 h2 h3
  exact ⟨G1, al, m, fl, m1, r1, e1, fun G2 al2 σ2 H2 ev2 r2 => k G2 al2 σ2 H2 (ev1.trans ev2) (r2.thaw h3)⟩
theorem ss_frz {l : List Nat} (i : Nat) (h1 : ownL l i = true) (h : SSs cls (ownL (l.filter (· != i))) X sts f) : SSs cls (ownL l) X sts (sFrz i f) := by
  refine ss_frz0 h1 ?_ (fun j hj => ?_) h
  · unfold ownL
    rw [List.contains_eq_mem, decide_eq_false_iff_not]
    intro h
    have := (List.mem_filter.mp h).2
    simp at this
  · unfold ownL
    rw [List.contains_eq_mem, List.contains_eq_mem, decide_eq_decide]
    simp [List.mem_filter, hj]
end

/-! ### a, b = x, y -/
def sPar (i j : Nat) (fs : Den (List Hd)) : Den Fl := (aVals fs).bind fun ds => fun m => match ds with
  | [x, y] => .ok .nx { m with sl := (m.sl.set i (some x)).set j (some y) }
  | _ => .bad
def sPar3 (i j l : Nat) (fs : Den (List Hd)) : Den Fl := (aVals fs).bind fun ds => fun m => match ds with
  | [x, y, z] => .ok .nx { m with sl := ((m.sl.set i (some x)).set j (some y)).set l (some z) }
  | _ => .bad
section
variable {cls : Nat → Addr} {own : Nat → Bool} {X : Cx} {a b c : Expr} {fs : Den (List Hd)} {px py pz pt pos : Pos} {kt k2 : Nat} {pt2 : Pos} {i j l : Nat} {x y z : Str}
theorem ss_par (hi0 : own i = false) (hj0 : own j = false) (hc : X.calm = true) (hN : X.N.Nodup) (hi : X.N[i]? = some x) (hj : X.N[j]? = some y) (hij : i ≠ j)
    (hx : X.env.scope.names.lookup x = some .local) (hy : X.env.scope.names.lookup y = some .local) (ha : SHs cls own X [a, b] fs)
    (hw : swappedStores [.Tuple [.Name x px, .Name y py] kt pt] (.Tuple [a, b] k2 pt2) X.env = pure (some [x, y]))
    (hs : swapsWithSole [.Tuple [.Name x px, .Name y py] kt pt] (.Tuple [a, b] k2 pt2) pos.line X.env = pure false := by rfl) :
    SS cls own X (.Assign [.Tuple [.Name x px, .Name y py] kt pt] (.Tuple [a, b] k2 pt2) pos) (sPar i j fs) := by
  refine ps_imp (ps_par hc hN hi hj hij hx hy ha hw hs) fun E σ H q => ?_
  obtain ⟨G, al, m, fl, m', r, e, k⟩ := q
  obtain ⟨ds, m1, e1, e⟩ := bind_ok e
  obtain ⟨hs, e1, lk⟩ := aVals_ok e1
  refine ⟨G, al, m, hs, m1, r, e1, fun G1 al1 vs H1 ev1 r1 hv => ?_⟩
  have dv := looksV_dv hv lk
  split at e
  · next d1 d2 =>
    cases e
    cases dv with
    | cons q1 dv =>
      cases dv with
      | cons q2 dv =>
        cases dv
        exact ⟨_, _, rfl, k G1 al1 _ H1 ev1 ((r1.set q1 hi0).set q2 hj0)⟩
  · cases e
end

/-! ### slices -/
def cutD (ds : List D) (lo hi : Option Int) : List D := (ds.drop (HT.sIx ds.length 0 lo)).take (HT.sIx ds.length ds.length hi - HT.sIx ds.length 0 lo)
def gCut : D → Option Int → Option Int → Option D
  | .lst ds, lo, hi => some (.lst (cutD ds lo hi))
  | .tup ds, lo, hi => some (.tup (cutD ds lo hi))
  | .str z, lo, hi => if fitL z.length then some (.str (cutS z lo hi)) else none
  | _, _, _ => none
def pNo : Den (Option Int) := .ret none
def pInt (f : Den D) : Den (Option Int) := f.bind fun d => fun m => match d with
  | .int i => .ok (some i) m
  | _ => .bad
def eCut (fa : Den Hd) (fl fh : Den (Option Int)) : Den D := fa.bind fun h => fl.bind fun lo => fh.bind fun hi => fun m => match look h m with
  | some d => match gCut d lo hi with
    | some z => .ok z m
    | none => .bad
  | none => .bad
def tOp (K : KX) (cls : Nat → Addr) (own : Nat → Bool) (f : Den (Option Int)) : TO := fun σ H Q => ∃ G al m d m', Rst K cls own G al m σ H ∧ f m = .ok d m' ∧
  ∀ G' al' H', Ev G al G' al' → Rst K cls own G' al' m' σ H' → Q d H'
abbrev SP (cls : Nat → Addr) (own : Nat → Bool) (X : Cx) (e : Option Expr) (f : Den (Option Int)) : Prop := PO X e (tOp X.kx cls own f)
theorem po_imp {X : Cx} {e : Option Expr} {t t' : TO} (h : PO X e t) (i : ∀ σ H Q, t' σ H Q → t σ H Q) : PO X e t' := ⟨fun pins s σ H Q I q => h.run pins s σ H Q I (i σ H Q q)⟩
section
variable {cls : Nat → Addr} {own : Nat → Bool} {X : Cx} {a : Expr} {lo hi : Option Expr} {fa : Den Hd} {f : Den D} {fl fh : Den (Option Int)} {p2 pos : Pos}
theorem sp_no : SP cls own X none pNo := po_imp po_none fun σ H Q ⟨G, al, m, d, m', r, e, k⟩ => by cases e; exact k G al H .refl r
theorem sp_int (h : SE cls own X a f) : SP cls own X (some a) (pInt f) := by
  refine po_imp (po_some h) fun σ H Q q => ?_
  obtain ⟨G, al, m, d, m', r, e, k⟩ := q
  obtain ⟨x, m1, e1, e⟩ := bind_ok e
  refine ⟨G, al, m, x, m1, r, e1, fun G1 al1 v H1 ev1 r1 dv => ?_⟩
  split at e
  · next i => cases e; cases dv; exact ⟨i, rfl, k G1 al1 H1 ev1 r1⟩
  · cases e
def rCutU (K : PySem.W.Frag) : V → Option Int → Option Int → Hp → VK → Prop := fun x lo hi H Q => rSlL K x lo hi H Q ∨ (rSlA K x lo hi H Q ∨ rSlS x lo hi H Q)
theorem sl_U : SlR X (rCutU X.K) := sl_list.or (sl_tupA.or sl_str)
theorem cutV_dvs {K : KX} {Z : Hp} {al : List Addr} {xs : List V} {ds : List D} {lo hi : Option Int} (h : DVs K Z al xs ds) : DVs K Z al (cutV xs lo hi) (cutD ds lo hi) := by
  unfold cutV cutD
  rw [h.length]
  exact (h.drop _).take _
theorem cutD_all {ds : List D} {lo hi : Option Int} (h : HT.sIx ds.length 0 lo = 0 ∧ HT.sIx ds.length ds.length hi = ds.length) : cutD ds lo hi = ds := by
  unfold cutD
  rw [h.1, h.2]
  simp
theorem eCut_ok {m m' : MS} {d : D} (e : eCut fa fl fh m = .ok d m') : ∃ h m1 lo m2 hi x, fa m = .ok h m1 ∧ fl m1 = .ok lo m2 ∧ fh m2 = .ok hi m' ∧ look h m' = some x ∧ gCut x lo hi = some d := by
  obtain ⟨h, m1, e1, e⟩ := bind_ok e
  obtain ⟨lo, m2, e2, e⟩ := bind_ok e
  obtain ⟨hi, m3, e3, e⟩ := bind_ok e
  split at e
  · next x l1 =>
    split at e
    · next z gz => cases e; exact ⟨h, m1, lo, m2, hi, x, e1, e2, e3, l1, gz⟩
    · cases e
  · cases e
theorem se_cut (ha : SH cls own X a fa) (hl : SP cls own X lo fl) (hh : SP cls own X hi fh) : SE cls own X (.Subscript a (.Slice lo hi none p2) pos) (eCut fa fl fh) := by
  refine pe_imp (pe_slice sl_U ha hl hh) fun σ H Q q => ?_
  obtain ⟨G, al, m, d, m', r, e, k⟩ := q
  obtain ⟨h, m1, l0, m2, h0, x, e1, e2, e3, l1, gz⟩ := eCut_ok e
  refine ⟨G, al, m, h, m1, r, e1, fun G1 al1 v H1 ev1 r1 hv => ⟨G1, al1, m1, l0, m2, r1, e2, fun G2 al2 H2 ev2 r2 => ⟨G2, al2, m2, h0, m', r2, e3, fun G3 al3 H3 ev3 r3 => ?_⟩⟩⟩
  have cr := look_cr r3 ((hv.ev ev2).ev ev3) l1
  have kk : Post X.kx cls own G3 al3 m' σ d Q := fun G4 al4 v4 H4 ev4 r4 dv4 => k G4 al4 v4 H4 (((ev1.trans ev2).trans ev3).trans ev4) r4 dv4
  unfold gCut at gz
  split at gz
  · next ds =>
    cases gz
    obtain ⟨p, xs, rfl, h1, c1⟩ := cr
    refine .inl ⟨p, xs, rfl, .inl (.inl h1), fun q hq => ?_⟩
    have hn := r3.hst.nog hq
    have ev : Ev G3 al3 (putG G3 q .frz (.lst (cutV xs l0 h0))) al3 := ev_put hn
    exact kk _ al3 _ _ ev ((r3.fresh hq).tag hn upd_same) (.lst (zof_of putG_same) ((cutV_dvs c1).ev ev))
  · next ds =>
    cases gz
    obtain ⟨p, xs, rfl, h1, c1⟩ := cr.tup
    refine .inr (.inl ⟨p, xs, rfl, Same.tupS r3.zh h1, fun hz => ?_, fun _ q hq => kk.tup r3 (cutV_dvs c1) hq⟩)
    rw [c1.length] at hz
    rw [cutD_all hz] at kk
    exact kk.keep r3 (.tup h1 c1)
  · next z =>
    split at gz
    · next hf => cases gz; cases cr.str; exact .inr (.inr ⟨z, rfl, fitL_le hf, kk.keep r3 (.str _)⟩)
    · cases gz
  · cases gz
theorem sf_cut (ha : SH cls own X a fa) (hl : SP cls own X lo fl) (hh : SP cls own X hi fh) : SF cls own X (.Subscript a (.Slice lo hi none p2) pos) ((eCut fa fl fh).bind fun d => fun m => match d with | .lst ds => .ok (.lst ds) m | _ => .bad) := by
  refine pe_imp (pe_slice sl_U ha hl hh) fun σ H Q q => ?_
  obtain ⟨G, al, m, d, m', r, e, k⟩ := q
  obtain ⟨d0, m0, e, e0⟩ := bind_ok e
  split at e0
  case h_2 => cases e0
  cases e0
  obtain ⟨h, m1, l0, m2, h0, x, e1, e2, e3, l1, gz⟩ := eCut_ok e
  refine ⟨G, al, m, h, m1, r, e1, fun G1 al1 v H1 ev1 r1 hv => ⟨G1, al1, m1, l0, m2, r1, e2, fun G2 al2 H2 ev2 r2 => ⟨G2, al2, m2, h0, m', r2, e3, fun G3 al3 H3 ev3 r3 => ?_⟩⟩⟩
  have cr := look_cr r3 ((hv.ev ev2).ev ev3) l1
  unfold gCut at gz
  split at gz
  · cases gz
    obtain ⟨p, xs, rfl, h1, c1⟩ := cr
    exact .inl ⟨p, xs, rfl, .inl (.inl h1), fun q hq => k G3 al3 q _ _ ((ev1.trans ev2).trans ev3) (r3.fresh hq) upd_same (r3.hst.nog hq) (cutV_dvs c1)⟩
  · cases gz
  · split at gz <;> cases gz
  · cases gz
end

/-! ### list(range(..)) -/
def eListRg (f : Den (List D)) : Den D := f.bind fun ds => fun m => if ds.length ≤ 16777216 then .ok (.lst ds) m else .bad
theorem rg_dvs {K : KX} {Z : Hp} {al : List Addr} {lo hi : Int} : DVs K Z al (rgV lo hi) (rangeD lo (hi - lo).toNat) := by
  unfold rgV
  generalize (hi - lo).toNat = n
  induction n generalizing lo with
  | zero => exact .nil
  | succ n ih =>
    rw [List.range_succ_eq_map, List.map_cons, List.map_map, rangeD]
    refine .cons (by simp only [Int.natCast_zero, Int.add_zero]; exact .int lo) ?_
    have := ih (lo := lo + 1)
    have e : (List.map ((fun i => V.int (lo + (i : Nat))) ∘ Nat.succ) (List.range n)) = (List.map (fun i => V.int (lo + 1 + (i : Nat))) (List.range n)) := by
      apply List.map_congr_left
      intro i _
      show V.int _ = V.int _
      congr 1
      simp only [Nat.succ_eq_add_one, Int.natCast_add]
      omega
    rw [e]
    exact this
section
variable {cls : Nat → Addr} {own : Nat → Bool} {X : Cx} {a b : Expr} {fa fb : Den Hd} {p p2 pos pos2 : Pos}
def iRg1 (fa : Den Hd) : Den (List D) := fa.bind fun h => fun m => match h with
  | .val (.int j) => if smallI j then .ok (rangeD 0 (j - 0).toNat) m else .bad
  | _ => .bad
theorem sf_listRg1 (hc : X.calm = true) (hg : Gl X "list") (hm : X.mg "list" = none) (hg2 : Gl X "range") (hm2 : X.mg "range" = none) (ha : SH cls own X a fa)
    (na : starEach [a] X.env = (false, eval a X.env) :: starEach [] X.env := by rfl)
    (nb : starEach [.Call (.Name "range" p2) [a] [] pos2] X.env = (false, eval (.Call (.Name "range" p2) [a] [] pos2) X.env) :: starEach [] X.env := by rfl) :
    SF cls own X (.Call (.Name "list" p) [.Call (.Name "range" p2) [a] [] pos2] [] pos) (eListRg (iRg1 fa)) := by
  refine pe_imp (pe_listRg hc hg hm (prg_1 hg2 hm2 ha na) nb) fun σ H Q q => ?_
  obtain ⟨G, al, m, d, m', r, e, k⟩ := q
  obtain ⟨ds, m1, e1, e⟩ := bind_ok e
  split at e
  case isFalse => cases e
  next hl =>
  cases e
  obtain ⟨h, m2, e2, e1⟩ := bind_ok e1
  split at e1
  case h_2 => cases e1
  next j =>
  split at e1
  case isFalse => cases e1
  next hs =>
  cases e1
  refine ⟨G, al, m, _, _, r, e2, fun G1 al1 v H1 ev1 r1 hv => ?_⟩
  cases (show DV X.kx (Zof G1) al1 v (.int j) from hv)
  obtain ⟨s1, s2⟩ := smallI_le hs
  rw [rangeD_len] at hl
  exact ⟨j, rfl, ⟨by decide, by decide, s1, s2, by omega⟩, fun q hq => k G1 al1 q _ _ ev1 (r1.fresh hq) upd_same (r1.hst.nog hq) (show DVs _ _ _ _ _ from rg_dvs)⟩
end
end MI

namespace MI
open PySem PySem.Spec L2

section
variable {prog : Program} {w : World} {A : Around} {E : Value → Shared → Prop} {s : Shared}
/-- collecting what stands at r gives vs -/
def Colls (prog : Program) (w : World) (A : Around) (s : Shared) (r : Addr) (vs : List Value) : Prop := ∀ (E : Value → Shared → Prop) (Q : List Value → Shared → Prop),
  (∀ (h' : Heap) (tk : Nat), (∀ b o, s.heap.get? b = some o → h'.get? b = some o) → Q vs { s with heap := h', toks := tk }) → wpAny (model prog w) A (collect (.ref r)) Q E s
theorem sorted_coll {β : Type} {R : Value → β → Prop} {enc : β → PyData} {r : Addr} {vs : List Value} {bs : List β} {Q : Value → Shared → Prop} (hc : Colls prog w A.in1 s r vs) (hL : vs.length ≤ sizeLine) (e : PySem.W.EachIs R vs bs)
    (er : PySem.W.EachIs (fun v b => ∃ as, Reads s.heap v (enc b) as) vs bs) (hal : PySem.W.AllAlike (bs.map enc))
    (hS : ∀ s' : Shared, (∀ b o, s.heap.get? b = some o → s'.heap.get? b = some o) → PySem.W.SortsAt prog w A.in1.in1 s' (PySem.W.dataKind s'.heap (bs.map enc)) vs)
    (h : ∀ (h1 h2 : Heap) (tk : Nat) (n : Nat) (out : List Value), (∀ b o, s.heap.get? b = some o → h1.get? b = some o) → (∀ b o, h1.get? b = some o → h2.get? b = some o) → h2.get? h1.objs.size = some (PyProof.Rows.seqObj "list" out.toArray n) → PySem.W.EachIs R out (bs.mergeSort (PySem.W.dataLe false enc)) →
      Q (.ref h1.objs.size) { s with heap := h2, toks := tk }) : wpAny (model prog w) A (call (.builtin "sorted") [.ref r]) Q E s := by
  refine PySem.Calls.call_function_entry PyProof.Rows.kind_sorted PyProof.Rows.plain_sorted PyProof.Rows.entry_sorted (PyProof.Rows.args_sorted1 _) ?_
  unfold Builtin.«sorted»
  refine wpAny_bind (m := checkCount "sorted" 1 1 _) (wpAny_pure ?_)
  refine wpAny_bind (hc _ _ fun h' tk hk => ?_)
  refine wpAny_bind (wpAny_newList ?_ hL)
  have hob : (h'.push { cls := .type "list", data := .seq vs.toArray }).get? h'.objs.size = some (PyProof.Rows.seqObj "list" vs.toArray 0) := Heap.get?_push_size _ rfl
  have kp : ∀ b o, s.heap.get? b = some o → (PySem.W.sortingHeap (h'.push { cls := .type "list", data := .seq vs.toArray }) h'.objs.size vs).get? b = some o := fun b o q =>
    PySem.W.sortingHeap_old (Nat.ne_of_lt (Heap.lt_size (hk b o q))) (Heap.get?_push_of_some _ (hk b o q))
  have er' : PySem.W.EachIs (fun v b => ∃ as, Reads (PySem.W.sortingHeap (h'.push { cls := .type "list", data := .seq vs.toArray }) h'.objs.size vs) v (enc b) as) vs bs := er.mono fun _ _ ⟨as, q⟩ => ⟨as, PyProof.Rows.Reads.keeps kp q⟩
  have S := hS { s with heap := PySem.W.sortingHeap (h'.push { cls := .type "list", data := .seq vs.toArray }) h'.objs.size vs, toks := tk } kp
  refine wpAny_bind (wpAny_holding (wpAny_call_entry PyProof.Rows.slot_list_sort ⟨_, hob, rfl⟩ PyProof.Rows.entry_list_sort ?_ (PyProof.Rows.args_list_sort _)))
  show wpAny (model prog w) A.in1.in1 (Builtin.«list.sort» ⟨[.ref h'.objs.size], []⟩) _ _ { s with heap := h'.push { cls := .type "list", data := .seq vs.toArray }, toks := tk }
  refine PySem.W.list_sort_vals (s := { s with heap := h'.push { cls := .type "list", data := .seq vs.toArray }, toks := tk }) hob S hL ⟨_, rfl, wpAny_pure ⟨_, rfl, ?_⟩⟩
  obtain ⟨ep, he⟩ := PyProof.Rows.sortedHeap_at (vs := vs) (out := (PySem.W.sortVals (PySem.W.dataKind (PySem.W.sortingHeap (h'.push { cls := .type "list", data := .seq vs.toArray }) h'.objs.size vs) (bs.map enc)) false vs vs).toArray) hob
  refine h h' _ tk ep _ hk (fun b o q => ?_) he (PySem.W.sortVals_data false e er' hal)
  rw [PyProof.Rows.sortedHeap_old (Nat.ne_of_lt (Heap.lt_size q)) (Heap.lt_size (Heap.get?_push_of_some _ q))]
  exact Heap.get?_push_of_some _ q
end

section
variable {X : Cx} {pins : List (Addr × Obj)} {σ : St} {H : Hp} {s : Shared}
/-- what may be sorted, walked: a list, a tuple, a dict of tuples -/
def SrcAt (K : KX) (H : Hp) (p : Addr) (ys : List V) : Prop := SqL K.K H p ys ∨ SqT K.K H p ys ∨ ∃ o xs, DNat K H p o xs ∧ ys = xs.map fun x => V.ref x.2.1
theorem SrcAt.colls {p : Addr} {ys : List V} (hc : X.calm = true) (h : SrcAt X.kx H p ys) (I : Inv X pins σ H s) : ∃ us, Vals ys us ∧ us.length ≤ sizeLine ∧ Colls X.prog X.w X.A.in1 s p us := by
  rcases h with h | h | ⟨o, xs, d, rfl⟩
  · obtain ⟨its, r, pl, hz⟩ := I.list h
    obtain ⟨o, ho, hc, n, hd⟩ := pl.isList
    refine ⟨its, r, by rw [← r.length]; exact hz, fun E Q q => wpAny_collect_seq p (.inl rfl) ho hc hd (fun h' k => ?_) (by rw [List.size_toArray, ← r.length]; exact hz)⟩
    have := q h' s.toks k
    rwa [show its.toArray.toList = its from rfl]
  · obtain ⟨its, r, pl, hz⟩ := I.tuple h
    obtain ⟨o, ho, hc, n, hd⟩ := pl
    refine ⟨its, r, by rw [← r.length]; exact hz, fun E Q q => wpAny_collect_seq p (.inr rfl) ho hc hd (fun h' k => ?_) (by rw [List.size_toArray, ← r.length]; exact hz)⟩
    have := q h' s.toks k
    rwa [show its.toArray.toList = its from rfl]
  · obtain ⟨es, ep, hd, he⟩ := d.raw.ent
    obtain ⟨ho, _⟩ := I.hok p _ d.at_
    have hraw : s.heap.DictRaw p es ep := ⟨o, ho, d.raw.exact', hd⟩
    have hlen : es.size = xs.length := by rw [← Array.length_toList, he, List.length_map]
    have hh : X.A.in1.handled = none := I.ok.hd hc
    have hvals : Vals (xs.map fun x => V.ref x.2.1) (xs.map fun x => Value.ref x.2.1) := by
      clear hlen he hraw d
      induction xs with
      | nil => exact .nil
      | cons x xs ih => exact .cons rfl ih
    refine ⟨xs.map fun x => Value.ref x.2.1, hvals, by rw [List.length_map]; exact d.raw.len, fun E Q q => ?_⟩
    refine PySem.W.kdu_collect (PySem.KdlSrc.rawDict (prog := X.prog) (w := X.w) (es := es) (ep := ep) d.raw.ns) hh hraw (by rw [hlen]; exact d.raw.len) fun h' tk acc hk hi => ?_
    have ea : acc.toList = xs.map fun x => Value.ref x.2.1 := by
      apply List.ext_getElem?
      intro j
      by_cases hj : j < acc.size
      · have h1 : acc[j]? = some acc[j] := Array.getElem?_eq_getElem hj
        obtain ⟨hje, hv⟩ := hi.2 j _ h1
        rw [Array.getElem?_toList, h1, hv]
        have h2 : es[j]? = some es[j] := Array.getElem?_eq_getElem hje
        rw [← Array.getElem?_toList, he, List.getElem?_map] at h2
        rw [List.getElem?_map]
        cases hx : xs[j]? with
        | none => rw [hx] at h2; cases h2
        | some x => rw [hx] at h2; simp only [Option.map_some, Option.some.injEq] at h2 ⊢; rw [← h2]; rfl
      · rw [List.getElem?_eq_none (by rw [Array.length_toList]; omega), List.getElem?_eq_none (by rw [List.length_map]; have := hi.1; omega)]
    rw [ea]
    exact q h' tk hk
def encB (b : V × D) : PyData := (toPy b.2).getD .none
def rSortD (K : KX) : List V → Hp → VK → Prop := fun xs H Q => ∃ (p : Addr) (bs : List (V × D)), xs = [.ref p] ∧ SrcAt K H p (bs.map Prod.fst) ∧ (∀ b ∈ bs, Dp K.K H b.1 (encB b)) ∧ PySem.W.AllAlike (bs.map encB) ∧ PySem.W.Sortable (bs.map encB) ∧ (∀ b ∈ bs, (encB b).depth ≤ 16) ∧
  ∀ q, H q = none → Q (.ref q) (upd H q (.lst ((bs.mergeSort (PySem.W.dataLe false encB)).map Prod.fst)))
theorem each_of {α : Type} {f : α → V} : ∀ {bs : List α} {us : List Value}, Vals (bs.map f) us → PySem.W.EachIs (fun v b => RelV (f b) v) us bs
  | [], us, h => by rw [List.map_nil] at h; cases h; exact .nil
  | b :: bs, us, h => by
    rw [List.map_cons] at h
    cases h with
    | cons h1 h2 => exact .cons h1 (each_of h2)
theorem of_each {α : Type} {f : α → V} : ∀ {bs : List α} {us : List Value}, PySem.W.EachIs (fun v b => RelV (f b) v) us bs → Vals (bs.map f) us
  | _, _, .nil => .nil
  | _, _, .cons h t => .cons h (of_each t)
theorem cr_sortD (hc : X.calm = true) (hu : X.A.units + 65 < cLine) : CallR X (.builtin "sorted") (rSortD X.kx) := by
  intro pins s σ H xs us Q I r h
  obtain ⟨p, bs, rfl, hs, hdp, hal, hk, hdep, q⟩ := h
  obtain ⟨u, rfl, rx⟩ := vals1 r
  cases rx
  obtain ⟨vs, rv, hl, col⟩ := hs.colls hc I
  have e := each_of rv
  have er : PySem.W.EachIs (fun v b => ∃ as, Reads s.heap v (encB b) as) vs bs := (PySem.W.each_mem e).mono fun v b ⟨rb, hb⟩ => Dp.reads I _ _ _ (hdp b hb) rb
  refine sorted_coll (β := V × D) (R := fun v b => RelV b.1 v) (enc := encB) col hl e er hal (fun s' hk' => ?_) fun h1 h2 tk n out k1 k2 hg ho => ?_
  · refine PySem.W.SortsAt.data (PySem.W.each_map (R := fun v d => ∃ as, Reads s'.heap v d as) encB (er.mono fun v b ⟨as, q⟩ => ⟨as, PyProof.Rows.Reads.keeps hk' q⟩)) hal hk fun d hd => ?_
    obtain ⟨b, hb, rfl⟩ := List.mem_map.mp hd
    have := hdep b hb
    show X.A.units + 2 + _ < cLine
    omega
  · have I1 : Inv X pins σ H { s with heap := h1 } := I.kept (t' := s.toks) k1
    have rs := of_each ho
    have hlen : ((bs.mergeSort (PySem.W.dataLe false encB)).map Prod.fst).length ≤ sizeLine := by
      rw [List.length_map, List.length_mergeSort, ← List.length_map (f := Prod.fst), rv.length]
      exact hl
    refine ⟨.ref h1.objs.size, _, I1.laid (h' := h2) (t' := tk) k2 (Nat.le_refl _) (show ObjOk X.prog X.w _ h2 _ (.lst _) from ⟨hlen, out, n, rs, hg⟩), rfl, q _ (I1.hok.fresh (Nat.le_refl _))⟩
end

/-! ### by data -/
def insD (le : D → D → Bool) (x : D) : List D → List D
  | [] => [x]
  | y :: ys => if le x y then x :: y :: ys else y :: insD le x ys
def isortD (le : D → D → Bool) : List D → List D
  | [] => []
  | x :: xs => insD le x (isortD le xs)
def encD (d : D) : PyData := (toPy d).getD .none
def leD : D → D → Bool := PySem.W.dataLe false encD
section
variable {le : D → D → Bool}
theorem insD_mem {x y : D} : ∀ {l : List D}, y ∈ insD le x l → y = x ∨ y ∈ l
  | [], h => by rw [insD] at h; exact .inl (by simpa using h)
  | z :: zs, h => by
    rw [insD] at h
    split at h
    · rcases List.mem_cons.mp h with h | h
      · exact .inl h
      · exact .inr h
    · rcases List.mem_cons.mp h with h | h
      · exact .inr (by simp [h])
      · rcases insD_mem h with h | h
        · exact .inl h
        · exact .inr (by simp [h])
theorem insD_sorted (ht : PySem.W.TotalLe le) {x : D} : ∀ {l : List D}, l.Pairwise (fun a b => le a b = true) → (insD le x l).Pairwise (fun a b => le a b = true)
  | [], _ => by rw [insD]; simp
  | z :: zs, h => by
    rw [insD]
    rw [List.pairwise_cons] at h
    split
    · next hx =>
      rw [List.pairwise_cons, List.pairwise_cons]
      refine ⟨fun a ha => ?_, h⟩
      rcases List.mem_cons.mp ha with rfl | ha
      · exact hx
      · exact ht.trans _ _ _ hx (h.1 a ha)
    · next hx =>
      rw [List.pairwise_cons]
      refine ⟨fun a ha => ?_, insD_sorted ht h.2⟩
      rcases insD_mem ha with rfl | ha
      · rcases ht.total a z with q | q
        · exact absurd q hx
        · exact q
      · exact h.1 a ha
theorem insD_filter (ht : PySem.W.TotalLe le) {x c : D} : ∀ {l : List D}, (insD le x l).filter (PySem.W.sameRank le c) = (x :: l).filter (PySem.W.sameRank le c)
  | [] => by rw [insD]
  | z :: zs => by
    rw [insD]
    split
    · rfl
    · next hx =>
      have hne : ¬ (PySem.W.sameRank le c x = true ∧ PySem.W.sameRank le c z = true) := by
        rintro ⟨h1, h2⟩
        unfold PySem.W.sameRank at h1 h2
        rw [Bool.and_eq_true] at h1 h2
        exact hx (ht.trans _ _ _ h1.2 h2.1)
      have ih := insD_filter ht (x := x) (c := c) (l := zs)
      rw [List.filter_cons, ih]
      by_cases hz : PySem.W.sameRank le c z = true
      · have hxn : PySem.W.sameRank le c x = false := by
          cases q : PySem.W.sameRank le c x with
          | false => rfl
          | true => exact absurd ⟨q, hz⟩ hne
        simp [List.filter_cons, hz, hxn]
      · simp [List.filter_cons, hz]
theorem isortD_eq (ht : PySem.W.TotalLe le) (l : List D) : isortD le l = l.mergeSort le := by
  have h1 : (isortD le l).Pairwise (fun a b => le a b = true) := by
    induction l with
    | nil => exact .nil
    | cons x xs ih => exact insD_sorted ht ih
  have h2 : ∀ c, (isortD le l).filter (PySem.W.sameRank le c) = l.filter (PySem.W.sameRank le c) := by
    intro c
    clear h1
    induction l with
    | nil => rfl
    | cons x xs ih =>
      rw [isortD, insD_filter ht, List.filter_cons, List.filter_cons, ih]
  exact PySem.W.sort_unique ht h1 h2
end

def alikeB (ps : List PyData) : Bool := ps.all fun p => ps.all fun q => PySem.W.alike p q
def sortOkB (ps : List PyData) : Bool := (ps.all fun p => match p with | .tuple (_ :: _) => true | _ => false) || ps.all fun p => match p with | .none => false | .tuple _ => false | _ => true
def sortB (ds : List D) : Option (List D) := match toPys ds with
  | some ps => if alikeB ps && sortOkB ps && (ps.all fun p => decide (p.depth ≤ 16)) then some (isortD leD ds) else none
  | none => none
def keysOf : D → Option (List D)
  | .lst ds => some ds
  | .tup ds => some ds
  | .dit ds => some (ds.map Prod.fst)
  | _ => none
def gSorted : List D → Option D
  | [d] => match keysOf d with
    | some ds => (sortB ds).map .lst
    | none => none
  | _ => none
theorem toPys_map : ∀ {ds : List D} {ps : List PyData}, toPys ds = some ps → ps = ds.map encD ∧ ∀ d ∈ ds, toPy d = some (encD d)
  | [], ps, e => by cases e; exact ⟨rfl, fun d h => by cases h⟩
  | d :: ds, ps, e => by
    obtain ⟨p, ps', h1, h2, rfl⟩ := toPys_cons e
    obtain ⟨i1, i2⟩ := toPys_map h2
    have hd : encD d = p := by unfold encD; rw [h1]; rfl
    refine ⟨by rw [i1, List.map_cons, hd], fun x hx => ?_⟩
    rcases List.mem_cons.mp hx with rfl | hx
    · rw [hd]; exact h1
    · exact i2 x hx
section
variable {cls : Nat → Addr} {own : Nat → Bool} {K : KX} {G : Gh} {al : List Addr} {m : MS} {σ : St} {H : Hp}
theorem srcOf {x : V} {d : D} {ds : List D} (r : Rst K cls own G al m σ H) (h : CR K H (Zof G) al x d) (e : keysOf d = some ds) : ∃ p ys, x = .ref p ∧ SrcAt K H p ys ∧ DVs K (Zof G) al ys ds := by
  unfold keysOf at e
  split at e
  · cases e
    obtain ⟨a, us, rfl, h1, r1⟩ := h
    exact ⟨a, us, rfl, .inl (.inl (.inl h1)), r1⟩
  · cases e
    obtain ⟨a, us, rfl, h1, r1⟩ := h.tup
    exact ⟨a, us, rfl, .inr (.inl (Same.tupS r.zh h1)), r1⟩
  · cases e
    obtain ⟨a, o, xs, vs, rfl, h1, h2, h3, h4, h5, h6⟩ := h
    exact ⟨a, _, rfl, .inr (.inr ⟨o, xs, dnat_of r h1 h2 h3 h4, rfl⟩), h3⟩
  · cases e
theorem DVs.zip {Z : Hp} : ∀ {vs : List V} {ds : List D}, DVs K Z al vs ds → (vs.zip ds).map Prod.fst = vs ∧ (vs.zip ds).map Prod.snd = ds ∧ ∀ b ∈ vs.zip ds, DV K Z al b.1 b.2
  | _, _, .nil => ⟨rfl, rfl, fun b h => by cases h⟩
  | _, _, .cons h r => by
    obtain ⟨i1, i2, i3⟩ := DVs.zip r
    refine ⟨by simp [i1], by simp [i2], fun b hb => ?_⟩
    rcases List.mem_cons.mp hb with rfl | hb
    · exact h
    · exact i3 b hb
theorem DVs.of_pairs {Z : Hp} : ∀ {bs : List (V × D)}, (∀ b ∈ bs, DV K Z al b.1 b.2) → DVs K Z al (bs.map Prod.fst) (bs.map Prod.snd)
  | [], _ => .nil
  | b :: bs, h => .cons (h b (List.mem_cons_self ..)) (DVs.of_pairs fun x hx => h x (List.mem_cons_of_mem _ hx))
theorem ok_sorted : FnOkF K cls own (rSortD K) gSorted := by
  intro G al m σ H xs da d Q r hx e k
  unfold gSorted at e
  split at e
  case h_2 => cases e
  next d0 =>
  split at e
  case h_2 => cases e
  next ds e0 =>
  unfold sortB at e
  split at e
  case h_2 => cases e
  next ps e1 =>
  split at e
  case isFalse => cases e
  next hok =>
  cases e
  obtain ⟨x, rfl, hc⟩ := hx.one
  obtain ⟨p, ys, rfl, hsrc, dv⟩ := srcOf r hc e0
  rw [Bool.and_eq_true, Bool.and_eq_true] at hok
  obtain ⟨⟨hal, hso⟩, hdp⟩ := hok
  obtain ⟨hps, hpy⟩ := toPys_map e1
  obtain ⟨z1, z2, z3⟩ := dv.zip
  have henc : (ys.zip ds).map encB = ps := by
    rw [hps, ← z2, List.map_map, z2]
    rfl
  refine ⟨p, ys.zip ds, rfl, by rw [z1]; exact hsrc, fun b hb => ?_, ?_, ?_, fun b hb => ?_, fun q hq => ?_⟩
  · have hb2 : b.2 ∈ ds := by rw [← z2]; exact List.mem_map.mpr ⟨b, hb, rfl⟩
    exact (z3 b hb).dp r.zh (hpy _ hb2)
  · rw [henc]
    intro d1 h1 d2 h2
    exact List.all_eq_true.mp (List.all_eq_true.mp hal d1 h1) d2 h2
  · rw [henc]
    unfold sortOkB at hso
    rw [Bool.or_eq_true] at hso
    rcases hso with h | h
    · refine .inl fun d1 h1 => ?_
      have := List.all_eq_true.mp h d1 h1
      split at this
      · exact ⟨_, _, rfl⟩
      · cases this
    · refine .inr fun d1 h1 => ?_
      have := List.all_eq_true.mp h d1 h1
      refine ⟨fun z => ?_, fun xs z => ?_⟩ <;> (subst z; cases this)
  · have hb2 : encB b ∈ ps := by rw [← henc]; exact List.mem_map.mpr ⟨b, hb, rfl⟩
    exact of_decide_eq_true (List.all_eq_true.mp hdp _ hb2)
  · have hs : ((ys.zip ds).mergeSort (PySem.W.dataLe false encB)).map Prod.snd = isortD leD ds := by
      rw [isortD_eq (le := leD) (PySem.W.sortLe_total _ false _)]
      have hm := PySem.W.sort_maps (r := PySem.W.dataLe false encB) (s := leD) (l := ys.zip ds) Prod.snd (fun a _ b _ => rfl)
      rw [hm, z2]
    rw [← hs] at k
    exact k.lst r (DVs.of_pairs fun b hb => z3 b ((List.mergeSort_perm _ _).mem_iff.mp hb)) hq
end
end MI

namespace MI
open PySem PySem.Spec L2

def tyN (K : KX) (x : V) (H : Hp) : Prop := ∃ (a : Addr) (o : Obj) (xs : XS), x = .ref a ∧ H a = some (hoN a o) ∧ RawN K a o xs
section
variable {X : Cx} {o e : Expr} {es : List Expr} {to : TE} {t : TA} {name : Str} {apos cpos : Pos} {id : String} {r : V → List V → Hp → VK → Prop}
theorem tyN_is {pins : List (Addr × Obj)} {σ : St} {H : Hp} {s : Shared} {x : V} {v : Value} (I : Inv X pins σ H s) (rv : RelV x v) (ty : tyN X.kx x H) : s.TypeIs v "dict" ∧ ∀ a, v = .ref a → ∃ ob, s.heap.get? a = some ob ∧ ob.dict = none := by
  obtain ⟨a, ob, xs, rfl, ha, raw⟩ := ty
  cases rv
  obtain ⟨ho, _⟩ := I.hok a _ ha
  exact ⟨⟨ob, ho, raw.exact'.1⟩, fun b e => by cases e; exact ⟨ob, ho, raw.exact'.2.1⟩⟩
/-- a method of such a dict -/
theorem pe_bmN (slot : Slot "dict" name id) (hty : typeOf (.builtin id) = pure (.type "method_descriptor")) (hm : MtR X id r) (ho : PE X o to) (ha : PA X (e :: es) t)
    (hbase : attributeBase o name X.env (eval o X.env) = eval o X.env := by rfl)
    (hfew : ((backTo cpos (starEach (e :: es) X.env)).all (fun x => !x.1) && (backToKw cpos (keywordEach [] X.env)).all (fun x => x.1.isSome)
      && decide ((e :: es).length + ([] : List Keyword).length + (if ([] : List Keyword).isEmpty then 0 else 1) < 30)) = true := by rfl)
    (hline : (apos.endLine == cpos.line) = true := by rfl) (hs : starEach (e :: es) X.env = (false, eval e X.env) :: starEach es X.env := by rfl) (hplain : (backTo cpos (starEach es X.env)).any (·.1) = false := by rfl) :
    PE X (.Call (.Attribute o name apos) (e :: es) [] cpos) (fun σ H Q => to σ H fun x H1 => tyN X.kx x H1 ∧ t σ H1 fun xs H2 => r x xs H2 Q) := by
  refine ⟨fun pins s σ H Q I h => ?_⟩
  refine wpAny_Call_method_late hbase hfew hline rfl (thn (ho.run pins s σ H _ I h) fun v s1 ⟨x, H1, I1, r1, ty, q1⟩ => ?_)
  obtain ⟨h1, h2⟩ := tyN_is I1 r1 ty
  refine ⟨"dict", id, PySem.F.plainAttrs_dict, slot, hty, h1, h2, ?_⟩
  have hA := ha.run cpos pins s1 σ H1 _ I1 q1
  rw [hs] at hA ⊢
  refine Calls.callWith_builtin (by show (false || (backTo cpos (starEach es X.env)).any (·.1)) = false; rw [hplain] <;> rfl) (Calls.evalArgs_plain ?_)
  exact thn hA fun us s2 ⟨vs, H2, I2, r2, q2⟩ => hm pins s2 σ H2 x vs v us Q I2 r1 r2 q2
def rPopN (K : KX) : V → List V → Hp → VK → Prop := fun x xs H Q => ∃ (a b : Addr) (ob : Obj) (ys : XS) (nk : NestedKey) (p : Addr × Value) (v : V), x = .ref a ∧ xs = [.ref b] ∧ DNat K H a ob ys ∧ KAt K.K H (.ref b) nk ∧ nk.depth ≤ 8 ∧ atKey ys nk = some p ∧ RelV v p.2 ∧
  ∀ o', RawN K a o' (withoutH ys nk) → Q v (upd H a (hoN a o'))
theorem mt_popN (hu : X.A.units + 65 < cLine) : MtR X "dict.pop" (rPopN X.kx) := by
  intro pins s σ H x xs v us Q I rx rxs h
  obtain ⟨a, b, ob, ys, nk, p, z, rfl, rfl, d, kb, hd, hp, rz, q⟩ := h
  cases rx
  obtain ⟨u1, rfl, r1⟩ := vals1 rxs
  cases r1
  refine call_pop_heap (more := []) (.inl rfl) (PySem.F.args_dict_pop_2 _ _) (room8 hu) ⟨KAt.is I nk _ _ kb rfl, hd⟩ d.raw.ns (d.dict I) hp (fun h' dd' hs => ?_) d.raw.len
  obtain ⟨o', es, ep, hq, h2, h3, h4, _, h5⟩ := dd'
  have raw : RawN X.kx a o' (withoutH ys nk) := ⟨Nat.le_trans (withoutH_length ys nk) d.raw.len, d.raw.ns, h2, ⟨es, ep, h3, h4⟩, h5, fun x hx => d.raw.dp x (List.mem_filter.mp hx).1⟩
  exact ⟨z, _, d_write I (by rw [d.at_]; exact True.intro) hs ⟨o', hq⟩ (ext_ok hq), rz, q o' raw⟩
end
/-! ### by data -/
def ddelN (ds : List (D × D)) (k : D) : List (D × D) := ds.filter fun q => !kEqN q.1 k
theorem ddelN_at {K : KX} {Z : Hp} {al : List Addr} {x : D} {nk : NestedKey} (hx : toNK x = some nk) : ∀ {xs : XS} {ds : List (D × D)} {vs : List V}, DVs K Z al (xs.map fun x => V.ref x.2.1) (ds.map Prod.fst) → toNKs (ds.map Prod.fst) = some (xs.map (·.1)) → Vals vs (xs.map (·.2.2)) → DVs K Z al vs (ds.map Prod.snd) →
    ∃ vs', DVs K Z al ((withoutH xs nk).map fun x => V.ref x.2.1) ((ddelN ds x).map Prod.fst) ∧ toNKs ((ddelN ds x).map Prod.fst) = some ((withoutH xs nk).map (·.1)) ∧ Vals vs' ((withoutH xs nk).map (·.2.2)) ∧ DVs K Z al vs' ((ddelN ds x).map Prod.snd)
  | [], [], _, _, _, _, _ => ⟨[], .nil, rfl, .nil, .nil⟩
  | [], (_, _) :: _, _, h, _, _, _ => by cases h
  | _ :: _, [], _, h, _, _, _ => by cases h
  | (k0, b, u) :: xs, (dk, dv) :: ds, vs, hk, e, rv, r => by
    obtain ⟨p, ps, h1, h2, e⟩ := toNKs_cons e
    have e : k0 :: xs.map (·.1) = p :: ps := e
    injection e with e1 e2
    rw [← e1] at h1
    rw [← e2] at h2
    have h1 : toNK dk = some k0 := h1
    cases hk with
    | cons k1 k2 =>
    cases rv with
    | cons rv1 rv2 =>
      cases r with
      | cons r1 r2 =>
        obtain ⟨vs', i1, i2, i3, i4⟩ := ddelN_at hx k2 h2 rv2 r2
        have hkq : kEqN dk x = decide (k0 = nk) := by unfold kEqN; rw [h1, hx, NestedKey.decide_eq]
        by_cases h : k0 = nk
        · have e1 : ddelN ((dk, dv) :: ds) x = ddelN ds x := List.filter_cons_of_neg (by simp [hkq, h])
          have e2 : withoutH ((k0, b, u) :: xs) nk = withoutH xs nk := List.filter_cons_of_neg (by simp [h])
          rw [e1, e2]
          exact ⟨vs', i1, i2, i3, i4⟩
        · have e1 : ddelN ((dk, dv) :: ds) x = (dk, dv) :: ddelN ds x := List.filter_cons_of_pos (by simp [hkq, h])
          have e2 : withoutH ((k0, b, u) :: xs) nk = (k0, b, u) :: withoutH xs nk := List.filter_cons_of_pos (by simp [h])
          rw [e1, e2]
          refine ⟨_ :: vs', .cons k1 i1, ?_, .cons rv1 i3, .cons r1 i4⟩
          rw [List.map_cons, toNKs, h1, i2]
          rfl
/-- slot i's dict loses a key: its value -/
def ePopN (i : Nat) (fs : Den (List Hd)) : Den D := fun m => match m.sl[i]? with
  | some (some (.dit _)) => match fs m with
    | .ok [h] m1 => match m1.sl[i]?, look h m1 with
      | some (some (.dit ds)), some k => if isNK k then match dgetN ds k with
          | some v => .ok v { m1 with sl := m1.sl.set i (some (.dit (ddelN ds k))) }
          | none => .bad
        else .bad
      | _, _ => .bad
    | _ => .bad
  | _ => .bad
section
variable {cls : Nat → Addr} {own : Nat → Bool} {X : Cx} {a : Expr} {apos cpos npos : Pos} {fs : Den (List Hd)} {i : Nat} {x : Str}
theorem CO.dit {K : KX} {Z : Hp} {al : List Addr} {a : Addr} {o : HO} {ds : List (D × D)} (c : CO K Z al a o (.dit ds)) : ∃ (ob : Obj) (xs : XS) (vs : List V), o = hoN a ob ∧ RawN K a ob xs ∧ DVs K Z al (xs.map fun x => V.ref x.2.1) (ds.map Prod.fst) ∧ toNKs (ds.map Prod.fst) = some (xs.map (·.1)) ∧ Vals vs (xs.map (·.2.2)) ∧ DVs K Z al vs (ds.map Prod.snd) := by
  cases o with
  | ext φ =>
    obtain ⟨ob, xs, vs, rfl, q⟩ := c
    exact ⟨ob, xs, vs, rfl, q⟩
  | _ => exact (show False from c).elim
theorem se_popN (hu : X.A.units + 65 < cLine) (hN : X.N[i]? = some x) (hv : Vis X.env.scope x) (ho : own i = true) (ha : SHs cls own X [a] fs)
    (hd : (x == ("__debug__" : Str)) = false := by decide) (hcd : (x == ("__classdict__" : Str)) = false := by decide)
    (hbase : attributeBase (.Name x npos) "pop" X.env (eval (.Name x npos) X.env) = eval (.Name x npos) X.env := by rfl)
    (hfew : ((backTo cpos (starEach [a] X.env)).all (fun x => !x.1) && (backToKw cpos (keywordEach [] X.env)).all (fun x => x.1.isSome)
      && decide ([a].length + ([] : List Keyword).length + (if ([] : List Keyword).isEmpty then 0 else 1) < 30)) = true := by rfl)
    (hline : (apos.endLine == cpos.line) = true := by rfl) (hs : starEach [a] X.env = (false, eval a X.env) :: starEach [] X.env := by rfl) (hplain : (backTo cpos (starEach [] X.env)).any (·.1) = false := by rfl) :
    SE cls own X (.Call (.Attribute (.Name x npos) "pop" apos) [a] [] cpos) (ePopN i fs) := by
  refine pe_imp (pe_bmN PySem.F.slot_dict_pop PySem.F.type_dict_pop (mt_popN hu) (pe_var (pos := npos) hN hv hd hcd) ha hbase hfew hline hs hplain) fun σ H Q q => ?_
  obtain ⟨G, al, m, d, m', r, e, k⟩ := q
  unfold ePopN at e
  split at e
  case h_2 => cases e
  next ds0 e0 =>
  split at e
  case h_2 => cases e
  next h m1 e1 =>
  split at e
  case h_2 => cases e
  next ds dk e2 l2 =>
  split at e
  case isFalse => cases e
  next hk =>
  split at e
  case h_2 => cases e
  next dv e3 =>
  cases e
  obtain ⟨p, o0, s0, g0, c0⟩ := r.own i _ e0 ho
  obtain ⟨ob0, xs0, vs0, rfl, raw0, _⟩ := c0.dit
  refine ⟨.ref p, s0, ⟨p, ob0, xs0, rfl, r.hst.gh _ _ _ g0, raw0⟩, G, al, m, [h], m1, r, e1, fun G1 al1 vs H1 ev1 r1 hv1 => ?_⟩
  obtain ⟨p', o1, s1, g1, c1⟩ := r1.own i _ e2 ho
  rw [s0] at s1; cases s1
  obtain ⟨ob, xs, ws, rfl, q2, q3, q4, q5, q6⟩ := c1.dit
  cases hv1 with
  | cons hv2 hv3 =>
    cases hv3
    have hx := look_cr r1 hv2 l2
    obtain ⟨es, nk, rfl, h1, h2⟩ := isNK_ok hk
    obtain ⟨b, rfl⟩ := hx.tref
    obtain ⟨i1, _⟩ := dgetN_at h1 q4 q5 q6
    obtain ⟨pp, v, hat, rv, hdv⟩ := i1 _ e3
    refine ⟨p, b, ob, xs, nk, pp, v, rfl, rfl, dnat_of r1 (r1.hst.gh _ _ _ g1) q2 q3 q4, hx.kat r1.zh h1, h2, hat, rv, fun o' raw => ?_⟩
    obtain ⟨vs', j1, j2, j3, j4⟩ := ddelN_at h1 q3 q4 q5 q6
    obtain ⟨ev2, r2⟩ := r1.write e2 ho s0 g1 (o' := hoN p o') (d' := .dit (ddelN ds (.tup es))) ⟨o', _, vs', rfl, raw, j1, j2, j3, j4⟩
    exact k _ _ _ _ (ev1.trans ev2) r2 (hdv.ev ev2)
end
end MI

namespace MI
open PySem PySem.Spec L2

/-- the module's name x is the datum d -/
def GC (K : KX) (mg : Str → Option Value) (x : Str) (d : D) : Prop := ∃ v u, mg x = some u ∧ RelV v u ∧ DV K (fun _ => none) [] v d
def datB (K : PySem.W.Frag) : Nat → Value → D → Bool
  | n + 1, .ref a, .tup ds => match K.lookup a with
    | some ⟨.type c, _, .seq its _, _⟩ => decide (c = "tuple") && (decide (its.size ≤ sizeLine) && (decide (its.toList.length = ds.length) && (its.toList.zip ds).all fun p => datB K n p.1 p.2))
    | _ => false
  | _, .none, .non => true
  | _, .bool b, .bl c => b == c
  | _, .int i _, .int j => decide (i = j)
  | _, .str x _, .str y => decide (x = y)
  | _, _, _ => false
theorem datB_ok {P : Program} {w : World} {K : PySem.W.Frag} : ∀ (n : Nat) (u : Value) (d : D), datB K n u d = true → ∃ v, RelV v u ∧ DV ⟨K, P, w⟩ (fun _ => none) [] v d := by
  intro n
  induction n with
  | zero =>
    intro u d h
    unfold datB at h
    split at h
    · next e => cases e
    · exact ⟨.non, rfl, .non⟩
    · next b c => rw [beq_iff_eq] at h; subst h; exact ⟨.bl b, rfl, .bl b⟩
    · next i t j => have := of_decide_eq_true h; subst this; exact ⟨.int i, ⟨t, rfl⟩, .int i⟩
    · next x t y => have := of_decide_eq_true h; subst this; exact ⟨.str x, ⟨t, rfl⟩, .str x⟩
    · cases h
  | succ n ih =>
    intro u d h
    unfold datB at h
    split at h
    · next k a ds e =>
      cases e
      split at h
      · next c od its m sl q =>
        simp only [Bool.and_eq_true, decide_eq_true_eq] at h
        obtain ⟨h1, h2, h3, h4⟩ := h
        have key : ∀ (us : List Value) (ds : List D), us.length = ds.length → ((us.zip ds).all fun p => datB K n p.1 p.2) = true → ∃ vs, Vals vs us ∧ DVs ⟨K, P, w⟩ (fun _ => none) [] vs ds := by
          intro us
          induction us with
          | nil => intro ds hl _; cases ds with
            | nil => exact ⟨[], .nil, .nil⟩
            | cons _ _ => cases hl
          | cons u us ihu => intro ds hl ha; cases ds with
            | nil => cases hl
            | cons d ds =>
              rw [List.zip_cons_cons, List.all_cons, Bool.and_eq_true] at ha
              obtain ⟨v, r1, r2⟩ := ih _ _ ha.1
              obtain ⟨vs, r3, r4⟩ := ihu ds (by simpa using hl) ha.2
              exact ⟨v :: vs, .cons r1 r3, .cons r2 r4⟩
        obtain ⟨vs, r1, r2⟩ := key _ _ h3 h4
        exact ⟨.ref a, rfl, .tup (.inr ⟨_, its, m, q, congrArg Value.type h1, rfl, h2, r1⟩) r2⟩
      · cases h
    · exact ⟨.non, rfl, .non⟩
    · next b c => rw [beq_iff_eq] at h; subst h; exact ⟨.bl b, rfl, .bl b⟩
    · next i t j => have := of_decide_eq_true h; subst this; exact ⟨.int i, ⟨t, rfl⟩, .int i⟩
    · next x t y => have := of_decide_eq_true h; subst this; exact ⟨.str x, ⟨t, rfl⟩, .str x⟩
    · cases h
def gcB (gc : List (Str × D)) (K : PySem.W.Frag) : Bool := gc.all fun q => match PySem.W.nsIn K mainGlobals q.1 with
  | some (some u) => datB K 8 u q.2
  | _ => false
theorem gc_ok {P : Program} {w : World} {K : PySem.W.Frag} {h : Heap} {mg : Str → Option Value} {gc : List (Str × D)} (X : K.In h) (G : h.Ns mainGlobals mg) (c : gcB gc K = true) (i : Nat) {x : Str} {d : D} (hq : gc[i]? = some (x, d) := by rfl) : GC ⟨K, P, w⟩ mg x d := by
  have := List.all_eq_true.mp c _ (List.mem_of_getElem? hq)
  split at this
  · next u e =>
    obtain ⟨v, r1, r2⟩ := datB_ok (P := P) (w := w) 8 u d this
    exact ⟨v, u, PySem.W.mg_of X G e, r1, r2⟩
  · cases this
/-! ### the hook -/
abbrev AlM : Type := He.AlD × Bool
def obsM (n : Nat) (fa : List He.Fa) (fn : List He.DefD) (ex : PySem.W.Frag → Bool) (g : Addr → Option Obj) : AlM := (He.obsD fa fn (He.frG g (He.asD g n)), ex (He.frG g (He.asD g n)))
def hookM (n : Nat) (fa : List He.Fa) (fn : List He.DefD) (ex : PySem.W.Frag → Bool) : PySem.W.Hook where
  α := AlM
  obs := fun s => obsM n fa fn ex s.heap.get?
  val := fun _ => (He.valD fn, true)
  says := fun _ h => ∃ K : PySem.W.Frag, K.In h ∧ He.SaysD fa fn K ∧ ex K = true
  of := fun _ _ e => ⟨_, He.frG_in, congrArg Prod.fst e, congrArg Prod.snd e⟩
  keeps := fun _ _ _ ⟨K, hK, c, d⟩ k => ⟨K, PySem.W.Frag.In.keeps hK k, c, d⟩
theorem obsM_eq {n : Nat} {fa : List He.Fa} {fn : List He.DefD} {ex : PySem.W.Frag → Bool} {g : Addr → Option Obj} {s : Shared} (h : ∀ a, g a = s.heap.get? a) : obsM n fa fn ex g = (hookM n fa fn ex).obs s := by
  have e : g = s.heap.get? := funext h
  rw [e]
  rfl
/-! ### short forms -/
section
variable {cls : Nat → Addr} {own : Nat → Bool} {X : Cx} {pos : Pos} {i : Nat} {x : Str} {d : D}
theorem xv (hN : X.N[i]? = some x := by rfl) (hv : Vis X.env.scope x := by first | exact .inl rfl | exact .inr (.inl rfl) | exact .inr (.inr rfl)) (ho : own i = false := by rfl) (hd : (x == ("__debug__" : Str)) = false := by decide) (hcd : (x == ("__classdict__" : Str)) = false := by decide) :
    SE cls own X (.Name x pos) (eVar i) := se_var hN hv ho hd hcd
theorem xs (hN : X.N[i]? = some x := by rfl) (hv : Vis X.env.scope x := by first | exact .inl rfl | exact .inr (.inl rfl) | exact .inr (.inr rfl)) (ho : own i = true := by rfl) (hd : (x == ("__debug__" : Str)) = false := by decide) (hcd : (x == ("__classdict__" : Str)) = false := by decide) :
    SH cls own X (.Name x pos) (hSlot i) := sh_slot hN hv ho hd hcd
theorem xg (g : GC X.kx X.mg x d) (hg : Gl X x := by rfl) (hdb : (x == ("__debug__" : Str)) = false := by decide) : SE cls own X (.Name x pos) (eC d) := by
  obtain ⟨v, u, h1, h2, h3⟩ := g
  exact se_glob hg h1 h2 h3 hdb
end
theorem bt_len : bootBuiltins "len" = some (.builtin "len") := by decide +kernel
theorem bt_sorted : bootBuiltins "sorted" = some (.builtin "sorted") := by decide +kernel
theorem bt_sum : bootBuiltins "sum" = some (.builtin "sum") := by decide +kernel
theorem bt_all : bootBuiltins "all" = some (.builtin "all") := by decide +kernel
theorem bt_any : bootBuiltins "any" = some (.builtin "any") := by decide +kernel
theorem bt_abs : bootBuiltins "abs" = some (.builtin "abs") := by decide +kernel
theorem bt_max : bootBuiltins "max" = some (.builtin "max") := by decide +kernel
theorem bt_min : bootBuiltins "min" = some (.builtin "min") := by decide +kernel
theorem bt_int : bootBuiltins "int" = some (.type "int") := by decide +kernel
theorem bt_tuple : bootBuiltins "tuple" = some (.type "tuple") := by decide +kernel
theorem bt_list : bootBuiltins "list" = some (.type "list") := by decide +kernel
/-- a def of the program that keeps what fn says -/
structure DefOk (P : Program) (w : World) (K : PySem.W.Frag) (mg : Str → Option Value) (base : Heap) (cls : Nat → Addr) (k : Nat) (x : Str) (f : Addr) (fd : FuncData) (ps : List Str) (fn : Fn) : Prop where
  ok : FnOk P w K mg base CX0 k f fd ps (SpD ⟨K, P, w⟩ cls ps.length fn)
  gl : mg x = some (.ref f)
  kp : PySem.W.keepIn K (.ref f) = true
section
variable {cls : Nat → Addr} {own : Nat → Bool} {X : Cx} {k j n : Nat} {f : Addr} {fd : FuncData} {ps ks : List Str} {fn : Fn} {x : Str} {p pos : Pos} {e : Expr} {es : List Expr} {fs fk : Den (List Hd)} {kws : List Keyword} {sp : List Src} {dvs : List V} {dds : List D} {mv : List Value}
theorem xc (F : DefOk X.prog X.w X.K X.mg X.base cls j x f fd ps fn) (hr : Room k X.A) (hb : KBn X.K fd ps n ks (fun us ws => arr sp us mv ws) (fun vs zs => arr sp vs dvs zs))
    (hdd : DVs X.kx (fun _ => none) [] dvs dds) (ha : SHs cls own X (e :: es) fs) (hkw : SKs cls own X kws fk) (hnp : ∀ vs zs : List V, vs.length = n → zs.length = ks.length → (arr sp vs dvs zs).length = ps.length) (hl1 : ∀ m hs m', fs m = .ok hs m' → hs.length = n) (hl2 : ∀ m hs m', fk m = .ok hs m' → hs.length = ks.length)
    (hjk : j ≤ k := by decide) (hg : Gl X x := by rfl)
    (hall : (backToKw pos (keywordEach kws X.env)).all (·.1.isSome) = true := by rfl) (hks : (backToKw pos (keywordEach kws X.env)).filterMap (·.1) = ks := by rfl)
    (hdb : (x == ("__debug__" : Str)) = false := by decide) (he : starEach (e :: es) X.env = (false, eval e X.env) :: starEach es X.env := by rfl)
    (hpl : ((backTo pos (starEach (e :: es) X.env)).any (·.1) || (backToKw pos (keywordEach kws X.env)).any (·.1.isNone)) = false := by rfl) :
    SE cls own X (.Call (.Name x p) (e :: es) kws pos) (eCallK fn sp dds (aVals fs) (aVals fk)) := se_callK F.ok (hr.mono hjk) hg F.gl F.kp hb hdd ha hkw hnp hl1 hl2 hall hks hdb he hpl
theorem xc0 (F : DefOk X.prog X.w X.K X.mg X.base cls j x f fd ps fn) (hr : Room k X.A) (hb : KBn X.K fd ps 0 ks (fun us ws => arr sp us mv ws) (fun vs zs => arr sp vs dvs zs))
    (hdd : DVs X.kx (fun _ => none) [] dvs dds) (hkw : SKs cls own X kws fk) (hnp : ∀ vs zs : List V, vs.length = 0 → zs.length = ks.length → (arr sp vs dvs zs).length = ps.length) (hl2 : ∀ m hs m', fk m = .ok hs m' → hs.length = ks.length)
    (hjk : j ≤ k := by decide) (hg : Gl X x := by rfl)
    (hall : (backToKw pos (keywordEach kws X.env)).all (·.1.isSome) = true := by rfl) (hks : (backToKw pos (keywordEach kws X.env)).filterMap (·.1) = ks := by rfl)
    (hdb : (x == ("__debug__" : Str)) = false := by decide) (hpl : ((backTo pos (starEach [] X.env)).any (·.1) || (backToKw pos (keywordEach kws X.env)).any (·.1.isNone)) = false := by rfl) :
    SE cls own X (.Call (.Name x p) [] kws pos) (eCallK fn sp dds (aVals aNil) (aVals fk)) := se_callK0 F.ok (hr.mono hjk) hg F.gl F.kp hb hdd hkw hnp hl2 hall hks hdb hpl
end
end MI

namespace MI
open PySem PySem.Spec L2
def gAddL : D → D → Option D
  | .lst xs, .lst ys => if fitL (xs.length + ys.length) then some (.lst (xs ++ ys)) else none
  | _, _ => none
section
variable {cls : Nat → Addr} {own : Nat → Bool} {K : KX}
theorem ok_addL : OpOkF K cls own (rAdd K.K) gAddL := by
  intro G al m σ H x y da db d Q r hx hy e k
  unfold gAddL at e
  split at e
  · next xs ys =>
    split at e
    · next hf =>
      cases e
      obtain ⟨a, us, rfl, h1, r1⟩ := hx
      obtain ⟨b, ws, rfl, h2, r2⟩ := hy
      exact .inr (.inr (.inr ⟨a, b, us, ws, rfl, rfl, h1, h2, by rw [r1.length, r2.length]; exact fitL_le hf, fun p hp => k.lst r (r1.append r2) hp⟩))
    · cases e
  · cases e
end
/-- the law's start: the script is data -/
theorem law_start {K : PySem.W.Frag} {P : Program} {w : World} {cls : Nat → Addr} {H : Hp} {a : Addr} {ns : List Int} {fn : Fn} {E : XK} (hS : SqL K H a (ns.map V.int)) (h : ∃ st, fn [.scr ns] [] = some (.bl true, st)) :
    SpD ⟨K, P, w⟩ cls 1 fn [.ref a] H (fun v _ => v = .bl true) E := by
  obtain ⟨st, h⟩ := h
  let G : Gh := fun b => if b = a then (H a).map fun o => (.frz, o) else none
  have hz : Zof G a = H a := by
    show (match (if a = a then (H a).map fun o => (Tag.frz, o) else none) with
      | some (.frz, o) => some o
      | _ => none) = H a
    rw [if_pos rfl]
    cases H a <;> rfl
  refine ⟨rfl, G, [], [.scr ns], [], .bl true, st, ⟨fun b t o e => ?_, rfl, fun n o e => by simp at e⟩, .cons (.scr ?_) .nil, h, fun G' al' v H' _ _ dv => by cases dv; rfl⟩
  · have e : (if b = a then (H a).map fun o => (Tag.frz, o) else none) = some (t, o) := e
    split at e
    · next hb =>
      subst hb
      cases q : H b with
      | none => rw [q] at e; cases e
      | some u => rw [q] at e; cases e; rfl
    · cases e
  · rcases hS with (h | ⟨u, h⟩) | h
    · exact .inl (.inl (hz.trans h))
    · exact .inl (.inr ⟨u, hz.trans h⟩)
    · exact .inr h
end MI

namespace Lk08
open PySem PySem.Spec L2 MI
def top (i : Nat) : Stmt := PySem.Challenge.pw_strangeseats_k08_frames_all.main.body.getD i (.Pass ⟨0, 0, 0, 0⟩)
/-- what the defs know of the module -/
structure Mod (K : KX) (mg : Str → Option Value) : Prop where
  m_all : mg "all" = none
  m_enumerate : mg "enumerate" = none
  m_int : mg "int" = none
  m_len : mg "len" = none
  m_list : mg "list" = none
  m_range : mg "range" = none
  m_sorted : mg "sorted" = none
  m_sum : mg "sum" = none
  m_tuple : mg "tuple" = none
  g_READ_HOUSE : GC K mg "READ_HOUSE" (.tup [(.int (-1))])
  g_READ_NAME : GC K mg "READ_NAME" (.tup [(.int (-1)), (.int (-1))])
  g_STRANGE : GC K mg "STRANGE" (.int (-1))
section
variable {P : Program} {w : World} {K : PySem.W.Frag} {mg : Str → Option Value} {base : Heap} {cls : Nat → Addr}
abbrev st_held_things : Stmt := top 4
theorem sc_held_things : FnScope ["frame", "found", "i", "seats", "k"] ["frame"] (defScope st_held_things) := ⟨rfl, rfl, rfl, by decide +kernel, rfl, by decide +kernel, by decide +kernel⟩
def d_held_things : Den Fl := sSeq (sSet 1 (eLst (aNil))) (sSeq (sFor (iEnum (aCons (hVal (eVar 0)) (aNil))) (.tp [.nm 2, .nm 3]) (sSeq (sDrop (eMut 1 gAppend (aVals (aCons (hVal (eTup (aCons (hVal (eVar 2)) (aNil)))) (aNil))))) (sDrop (eMut 1 gExtend (aLooks (aCons (hVal (eLc (iRange1 (aCons (hVal (eVar 3)) (aNil))) [4] (.nm 4) (.ret true) (eTup (aCons (hVal (eVar 2)) (aCons (hVal (eVar 4)) (aNil)))))) (aNil))))))) (sFrz 1 (sRet (eFn gTuple (aCons (hVal (eVar 1)) (aNil))))))
def fn_held_things : Fn := runFn 5 d_held_things
set_option maxRecDepth 100000 in
theorem ok_held_things {f : Addr} {fd : FuncData} (C : Mod ⟨K, P, w⟩ mg) (F : FunD K "held_things" "held_things" (defArgs st_held_things) (defBody st_held_things) (defScope st_held_things) [] [] f fd) :
    FnOk P w K mg base CX0 1 f fd ["frame"] (SpD ⟨K, P, w⟩ cls 1 fn_held_things) := by
  refine fn_ok (N := ["frame", "found", "i", "seats", "k"]) (ps := ["frame"]) (den := d_held_things) (own := ownL [1]) F sc_held_things (by decide) fun cdv A outer s H E hr => ?_
  have hu : (A.deeper (PyProof.Rows.envOfC "held_things" (defScope st_held_things) s.heap.objs.size f cdv)).units + 65 < cLine := by have := hr.un; omega
  have h4 := Nat.lt_of_succ_lt hu
  exact ss_cons (ss_own (i := 1) rfl sc_held_things.nd rfl (by first | exact .inl rfl | exact .inr rfl) (sf_lst (sa_nil))) (ss_cons (ss_for PassesOwn.never rfl (si_enum rfl C.m_enumerate (sa_cons (sh_val (xv)) (sa_nil))) (sg_tup rfl (sgs_cons (sg_name (i := 2) rfl sc_held_things.nd rfl (by first | exact .inl rfl | exact .inr rfl)) (sgs_cons (sg_name (i := 3) rfl sc_held_things.nd rfl (by first | exact .inl rfl | exact .inr rfl)) (sgs_nil))) rfl) (ss_cons (ss_expr (se_append (i := 1) rfl (by first | exact .inl rfl | exact .inr (.inl rfl) | exact .inr (.inr rfl)) rfl (sa_cons (sh_val (se_tup (sa_cons (sh_val (xv)) (sa_nil)))) (sa_nil)))) (ss_one (ss_expr (se_extend (i := 1) rfl (by first | exact .inl rfl | exact .inr (.inl rfl) | exact .inr (.inr rfl)) rfl (sa_cons (sh_val (se_of (sf_lc (ow := [("k", 4)]) rfl sc_held_things.nd (si_range1 rfl C.m_range (sa_cons (sh_val (xv)) (sa_nil))) (blkOk_by (N := ["frame", "found", "i", "seats", "k"]) (sc := defScope st_held_things) (by decide +kernel)) (fun _ _ _ _ _ => sg_name (i := 4) rfl sc_held_things.nd rfl (by first | exact .inl rfl | exact .inr rfl)) (fun _ _ _ _ _ => sbs_nil) (fun _ _ _ _ _ => se_tup (sa_cons (sh_val (xv)) (sa_cons (sh_val (xv)) (sa_nil)))) (by decide) (by decide)))) (sa_nil))))))) (ss_frz 1 rfl (ss_one (ss_ret (se_callTy call_tuple_of ok_tuple rfl C.m_tuple bt_tuple (sa_cons (sh_val (xv)) (sa_nil)))))))
abbrev st_cases : Stmt := top 5
theorem sc_cases : FnScope ["frame", "found", "i", "seats", "k"] ["frame"] (defScope st_cases) := ⟨rfl, rfl, rfl, by decide +kernel, rfl, by decide +kernel, by decide +kernel⟩
def d_cases : Den Fl := sSeq (sSet 1 (eLst (aCons (hVal (eC (.tup [(.int (-1)), (.int (-1))]))) (aNil)))) (sSeq (sFor (iEnum (aCons (hVal (eVar 0)) (aNil))) (.tp [.nm 2, .nm 3]) (sDrop (eMut 1 gExtend (aLooks (aCons (hVal (eLc (iRange2 (aCons (hVal (eC (.int (-1)))) (aCons (hVal (eVar 3)) (aNil)))) [4] (.nm 4) (.ret true) (eTup (aCons (hVal (eVar 2)) (aCons (hVal (eVar 4)) (aNil)))))) (aNil)))))) (sFrz 1 (sRet (eFn gTuple (aCons (hVal (eVar 1)) (aNil))))))
def fn_cases : Fn := runFn 5 d_cases
set_option maxRecDepth 100000 in
theorem ok_cases {f : Addr} {fd : FuncData} (C : Mod ⟨K, P, w⟩ mg) (F : FunD K "cases" "cases" (defArgs st_cases) (defBody st_cases) (defScope st_cases) [] [] f fd) :
    FnOk P w K mg base CX0 1 f fd ["frame"] (SpD ⟨K, P, w⟩ cls 1 fn_cases) := by
  refine fn_ok (N := ["frame", "found", "i", "seats", "k"]) (ps := ["frame"]) (den := d_cases) (own := ownL [1]) F sc_cases (by decide) fun cdv A outer s H E hr => ?_
  have hu : (A.deeper (PyProof.Rows.envOfC "cases" (defScope st_cases) s.heap.objs.size f cdv)).units + 65 < cLine := by have := hr.un; omega
  have h4 := Nat.lt_of_succ_lt hu
  exact ss_cons (ss_own (i := 1) rfl sc_cases.nd rfl (by first | exact .inl rfl | exact .inr rfl) (sf_lst (sa_cons (sh_val (xg C.g_READ_NAME)) (sa_nil)))) (ss_cons (ss_for PassesOwn.never rfl (si_enum rfl C.m_enumerate (sa_cons (sh_val (xv)) (sa_nil))) (sg_tup rfl (sgs_cons (sg_name (i := 2) rfl sc_cases.nd rfl (by first | exact .inl rfl | exact .inr rfl)) (sgs_cons (sg_name (i := 3) rfl sc_cases.nd rfl (by first | exact .inl rfl | exact .inr rfl)) (sgs_nil))) rfl) (ss_one (ss_expr (se_extend (i := 1) rfl (by first | exact .inl rfl | exact .inr (.inl rfl) | exact .inr (.inr rfl)) rfl (sa_cons (sh_val (se_of (sf_lc (ow := [("k", 4)]) rfl sc_cases.nd (si_range2 rfl C.m_range (sa_cons (sh_val (xg C.g_STRANGE)) (sa_cons (sh_val (xv)) (sa_nil)))) (blkOk_by (N := ["frame", "found", "i", "seats", "k"]) (sc := defScope st_cases) (by decide +kernel)) (fun _ _ _ _ _ => sg_name (i := 4) rfl sc_cases.nd rfl (by first | exact .inl rfl | exact .inr rfl)) (fun _ _ _ _ _ => sbs_nil) (fun _ _ _ _ _ => se_tup (sa_cons (sh_val (xv)) (sa_cons (sh_val (xv)) (sa_nil)))) (by decide) (by decide)))) (sa_nil)))))) (ss_frz 1 rfl (ss_one (ss_ret (se_callTy call_tuple_of ok_tuple rfl C.m_tuple bt_tuple (sa_cons (sh_val (xv)) (sa_nil)))))))
abbrev st_join_cases : Stmt := top 6
theorem sc_join_cases : FnScope ["frame", "held", "both", "i", "j"] ["frame"] (defScope st_join_cases) := ⟨rfl, rfl, rfl, by decide +kernel, rfl, by decide +kernel, by decide +kernel⟩
def d_join_cases : Den Fl := sSeq (sSet 1 (eListRg (iRg1 (hVal (eFn gLen (aCons (hVal (eVar 0)) (aNil))))))) (sSeq (sSet 2 (eLc2 (iSeq (eVar 1)) [3, 4] (.nm 3) (.ret true) (iSeq (eVar 1)) [4] (.nm 4) (bOf (eOp gLt (hVal (eVar 3)) (hVal (eVar 4)))) (eTup (aCons (hVal (eVar 3)) (aCons (hVal (eVar 4)) (aNil)))))) (sRet (eFn gTuple (aCons (hVal (eOp gAdd (hVal (eOp gAdd (hVal (eLst (aCons (hVal (eC (.tup [(.int (-1)), (.int (-1))]))) (aNil)))) (hVal (eLc (iSeq (eVar 1)) [3] (.nm 3) (.ret true) (eTup (aCons (hVal (eC (.int (-1)))) (aCons (hVal (eVar 3)) (aNil)))))))) (hVal (eVar 2)))) (aNil)))))
def fn_join_cases : Fn := runFn 5 d_join_cases
set_option maxRecDepth 100000 in
theorem ok_join_cases {f : Addr} {fd : FuncData} (C : Mod ⟨K, P, w⟩ mg) (F : FunD K "join_cases" "join_cases" (defArgs st_join_cases) (defBody st_join_cases) (defScope st_join_cases) [] [] f fd) :
    FnOk P w K mg base CX0 1 f fd ["frame"] (SpD ⟨K, P, w⟩ cls 1 fn_join_cases) := by
  refine fn_ok (N := ["frame", "held", "both", "i", "j"]) (ps := ["frame"]) (den := d_join_cases) (own := ownL []) F sc_join_cases (by decide) fun cdv A outer s H E hr => ?_
  have hu : (A.deeper (PyProof.Rows.envOfC "join_cases" (defScope st_join_cases) s.heap.objs.size f cdv)).units + 65 < cLine := by have := hr.un; omega
  have h4 := Nat.lt_of_succ_lt hu
  exact ss_cons (ss_set (i := 1) rfl sc_join_cases.nd rfl (by first | exact .inl rfl | exact .inr rfl) (se_of (sf_listRg1 rfl rfl C.m_list rfl C.m_range (sh_val (se_callB cr_lenU ok_len rfl C.m_len bt_len (sa_cons (sh_val (xv)) (sa_nil))))))) (ss_cons (ss_setLc2 (i := 2) (ow := [("i", 3), ("j", 4)]) rfl rfl sc_join_cases.nd rfl rfl rfl (si_seq (xv)) (blkOk_by (N := ["frame", "held", "both", "i", "j"]) (sc := defScope st_join_cases) (by decide +kernel)) (by decide) (fun _ _ _ _ _ => sg_name (i := 3) rfl sc_join_cases.nd rfl (by first | exact .inl rfl | exact .inr rfl)) (fun _ _ _ _ _ => sbs_nil) (fun _ _ _ _ _ => si_seq (xv)) (fun _ _ _ _ _ => sg_name (i := 4) rfl sc_join_cases.nd rfl (by first | exact .inl rfl | exact .inr rfl)) (fun _ _ _ _ _ => sbs_one (sb_cmp op_ltU ok_lt (sh_val (xv)) (sh_val (xv)))) (fun _ _ _ _ _ => se_tup (sa_cons (sh_val (xv)) (sa_cons (sh_val (xv)) (sa_nil)))) (by decide) (by decide) (by decide)) (ss_one (ss_ret (se_callTy call_tuple_of ok_tuple rfl C.m_tuple bt_tuple (sa_cons (sh_val (se_op2 op_addU ok_add (sh_val (se_op2 op_addU ok_add (sh_val (se_of (sf_lst (sa_cons (sh_val (xg C.g_READ_NAME)) (sa_nil))))) (sh_val (se_of (sf_lc (ow := [("i", 3)]) rfl sc_join_cases.nd (si_seq (xv)) (blkOk_by (N := ["frame", "held", "both", "i", "j"]) (sc := defScope st_join_cases) (by decide +kernel)) (fun _ _ _ _ _ => sg_name (i := 3) rfl sc_join_cases.nd rfl (by first | exact .inl rfl | exact .inr rfl)) (fun _ _ _ _ _ => sbs_nil) (fun _ _ _ _ _ => se_tup (sa_cons (sh_val (xg C.g_STRANGE)) (sa_cons (sh_val (xv)) (sa_nil)))) (by decide) (by decide)))))) (sh_val (xv)))) (sa_nil))))))
abbrev st_gone_house : Stmt := top 7
theorem sc_gone_house : FnScope ["case", "join"] ["case", "join"] (defScope st_gone_house) := ⟨rfl, rfl, rfl, by decide +kernel, rfl, by decide +kernel, by decide +kernel⟩
def d_gone_house : Den Fl := sRet (eIf (bAnd (bTru (hVal (eVar 1))) (bOf (eOp gNe (hVal (eOp gIxA (hVal (eVar 0)) (hVal (eC (.int 0))))) (hVal (eC (.int (-1))))))) (eOp gIxA (hVal (eVar 0)) (hVal (eC (.int 1)))) (eC .non))
def fn_gone_house : Fn := runFn 2 d_gone_house
set_option maxRecDepth 100000 in
theorem ok_gone_house {f : Addr} {fd : FuncData} (C : Mod ⟨K, P, w⟩ mg) (F : FunD K "gone_house" "gone_house" (defArgs st_gone_house) (defBody st_gone_house) (defScope st_gone_house) [] [] f fd) :
    FnOk P w K mg base CX0 1 f fd ["case", "join"] (SpD ⟨K, P, w⟩ cls 2 fn_gone_house) := by
  refine fn_ok (N := ["case", "join"]) (ps := ["case", "join"]) (den := d_gone_house) (own := ownL []) F sc_gone_house (by decide) fun cdv A outer s H E hr => ?_
  have hu : (A.deeper (PyProof.Rows.envOfC "gone_house" (defScope st_gone_house) s.heap.objs.size f cdv)).units + 65 < cLine := by have := hr.un; omega
  have h4 := Nat.lt_of_succ_lt hu
  exact ss_one (ss_ret (se_if (sb_w (sw_and (sb_tru (sh_val (xv))) (sw_and1 (sb_cmp (op_neD h4) ok_neD (sh_val (se_ixA hu (sh_val (xv)) (sh_val (se_int)) (by intro _ _; rfl))) (sh_val (xg C.g_STRANGE)))))) (se_ixA hu (sh_val (xv)) (sh_val (se_int)) (by intro _ _; rfl)) (se_non)))
abbrev st_read_things : Stmt := top 8
theorem sc_read_things : FnScope ["case", "join"] ["case", "join"] (defScope st_read_things) := ⟨rfl, rfl, rfl, by decide +kernel, rfl, by decide +kernel, by decide +kernel⟩
def d_read_things : Den Fl := sSeq (sIf (bTru (hVal (eVar 1))) (sRet (eIf (bOf (eOp gEq (hVal (eVar 0)) (hVal (eC (.tup [(.int (-1)), (.int (-1))]))))) (eLst (aCons (hVal (eC (.tup [(.int (-1))]))) (aNil))) (eLst (aNil)))) (sNx)) (sSeq (sIf (bOf (eOp gEq (hVal (eVar 0)) (hVal (eC (.tup [(.int (-1)), (.int (-1))]))))) (sRet (eLst (aCons (hVal (eC (.tup [(.int (-1))]))) (aCons (hVal (eC (.tup [(.int (-1)), (.int (-1))]))) (aNil))))) (sNx)) (sRet (eIf (bOf (eOp gEq (hVal (eOp gIxA (hVal (eVar 0)) (hVal (eC (.int 1))))) (hVal (eC (.int (-1)))))) (eLst (aCons (hVal (eVar 0)) (aNil))) (eLst (aNil)))))
def fn_read_things : Fn := runFn 2 d_read_things
set_option maxRecDepth 100000 in
theorem ok_read_things {f : Addr} {fd : FuncData} (C : Mod ⟨K, P, w⟩ mg) (F : FunD K "read_things" "read_things" (defArgs st_read_things) (defBody st_read_things) (defScope st_read_things) [] [] f fd) :
    FnOk P w K mg base CX0 1 f fd ["case", "join"] (SpD ⟨K, P, w⟩ cls 2 fn_read_things) := by
  refine fn_ok (N := ["case", "join"]) (ps := ["case", "join"]) (den := d_read_things) (own := ownL []) F sc_read_things (by decide) fun cdv A outer s H E hr => ?_
  have hu : (A.deeper (PyProof.Rows.envOfC "read_things" (defScope st_read_things) s.heap.objs.size f cdv)).units + 65 < cLine := by have := hr.un; omega
  have h4 := Nat.lt_of_succ_lt hu
  exact ss_cons (ss_if (sb_tru (sh_val (xv))) (ss_one (ss_ret (se_if (sb_cmp (op_eqD h4) ok_eqD (sh_val (xv)) (sh_val (xg C.g_READ_NAME))) (se_of (sf_lst (sa_cons (sh_val (xg C.g_READ_HOUSE)) (sa_nil)))) (se_of (sf_lst (sa_nil)))))) (ss_nil)) (ss_cons (ss_if (sb_cmp (op_eqD h4) ok_eqD (sh_val (xv)) (sh_val (xg C.g_READ_NAME))) (ss_one (ss_ret (se_of (sf_lst (sa_cons (sh_val (xg C.g_READ_HOUSE)) (sa_cons (sh_val (xg C.g_READ_NAME)) (sa_nil))))))) (ss_nil)) (ss_one (ss_ret (se_if (sb_cmp (op_eqD h4) ok_eqD (sh_val (se_ixA hu (sh_val (xv)) (sh_val (se_int)) (by intro _ _; rfl))) (sh_val (xg C.g_STRANGE))) (se_of (sf_lst (sa_cons (sh_val (xv)) (sa_nil)))) (se_of (sf_lst (sa_nil)))))))
abbrev st__law_lines : Stmt := top 12
theorem sc__law_lines : FnScope ["_law_words", "_law_shape", "_law_names", "_law_i", "_law_seats", "_law_k", "_law_found", "_law_word", "_law_spot", "_law_held"] ["_law_words", "_law_shape"] (defScope st__law_lines) := ⟨rfl, rfl, rfl, by decide +kernel, rfl, by decide +kernel, by decide +kernel⟩
def d__law_lines : Den Fl := sSeq (sSet 2 (eLst (aCons (hVal (eTup (aCons (hVal (eUn gNeg (hVal (eC (.int 1))))) (aCons (hVal (eUn gNeg (hVal (eC (.int 1))))) (aNil))))) (aNil)))) (sSeq (sFor (iEnum (aCons (hVal (eVar 1)) (aNil))) (.tp [.nm 3, .nm 4]) (sDrop (eMut 2 gExtend (aLooks (aCons (hVal (eLc (iRange2 (aCons (hVal (eUn gNeg (hVal (eC (.int 1))))) (aCons (hVal (eVar 4)) (aNil)))) [5] (.nm 5) (.ret true) (eTup (aCons (hVal (eVar 3)) (aCons (hVal (eVar 5)) (aNil)))))) (aNil)))))) (sFrz 2 (sSeq (sSet 6 (eLst (aNil))) (sSeq (sFor (iSeq (eVar 0)) (.nm 7) (sDrop (eMut 6 gExtend (aLooks (aCons (hVal (eLc (iSeq (eVar 2)) [8] (.nm 8) (.ret true) (eTup (aCons (hVal (eVar 7)) (aCons (hVal (eVar 8)) (aNil)))))) (aNil)))))) (sFrz 6 (sSeq (sSet 9 (eOp gAdd (hVal (eOp gAdd (hVal (eLst (aCons (hVal (eTup (aCons (hVal (eUn gNeg (hVal (eC (.int 1))))) (aCons (hVal (eUn gNeg (hVal (eC (.int 1))))) (aNil))))) (aNil)))) (hVal (eLc (iRange1 (aCons (hVal (eFn gLen (aCons (hVal (eVar 1)) (aNil)))) (aNil))) [3] (.nm 3) (.ret true) (eTup (aCons (hVal (eUn gNeg (hVal (eC (.int 1))))) (aCons (hVal (eVar 3)) (aNil)))))))) (hVal (eOp gMul (hVal (eLst (aCons (hVal (eTup (aCons (hVal (eC (.int 0))) (aCons (hVal (eC (.int 1))) (aNil))))) (aNil)))) (hVal (eFn gInt (aCons (hVal (eOp gEq (hVal (eFn gLen (aCons (hVal (eVar 1)) (aNil)))) (hVal (eC (.int 2))))) (aNil)))))))) (sRet (eOp gAdd (hVal (eVar 6)) (hVal (eLc (iSeq (eVar 9)) [8] (.nm 8) (.ret true) (eTup (aCons (hVal (eC (.str "join"))) (aCons (hVal (eVar 8)) (aNil))))))))))))))
def fn__law_lines : Fn := runFn 10 d__law_lines
set_option maxRecDepth 100000 in
theorem ok__law_lines {f : Addr} {fd : FuncData} (C : Mod ⟨K, P, w⟩ mg) (F : FunD K "_law_lines" "_law_lines" (defArgs st__law_lines) (defBody st__law_lines) (defScope st__law_lines) [] [] f fd) :
    FnOk P w K mg base CX0 1 f fd ["_law_words", "_law_shape"] (SpD ⟨K, P, w⟩ cls 2 fn__law_lines) := by
  refine fn_ok (N := ["_law_words", "_law_shape", "_law_names", "_law_i", "_law_seats", "_law_k", "_law_found", "_law_word", "_law_spot", "_law_held"]) (ps := ["_law_words", "_law_shape"]) (den := d__law_lines) (own := ownL [2, 6]) F sc__law_lines (by decide) fun cdv A outer s H E hr => ?_
  have hu : (A.deeper (PyProof.Rows.envOfC "_law_lines" (defScope st__law_lines) s.heap.objs.size f cdv)).units + 65 < cLine := by have := hr.un; omega
  have h4 := Nat.lt_of_succ_lt hu
  exact ss_cons (ss_own (i := 2) rfl sc__law_lines.nd rfl (by first | exact .inl rfl | exact .inr rfl) (sf_lst (sa_cons (sh_val (se_tup (sa_cons (sh_val (se_un un_neg ok_neg (sh_val (se_int)))) (sa_cons (sh_val (se_un un_neg ok_neg (sh_val (se_int)))) (sa_nil))))) (sa_nil)))) (ss_cons (ss_for PassesOwn.never rfl (si_enum rfl C.m_enumerate (sa_cons (sh_val (xv)) (sa_nil))) (sg_tup rfl (sgs_cons (sg_name (i := 3) rfl sc__law_lines.nd rfl (by first | exact .inl rfl | exact .inr rfl)) (sgs_cons (sg_name (i := 4) rfl sc__law_lines.nd rfl (by first | exact .inl rfl | exact .inr rfl)) (sgs_nil))) rfl) (ss_one (ss_expr (se_extend (i := 2) rfl (by first | exact .inl rfl | exact .inr (.inl rfl) | exact .inr (.inr rfl)) rfl (sa_cons (sh_val (se_of (sf_lc (ow := [("_law_k", 5)]) rfl sc__law_lines.nd (si_range2 rfl C.m_range (sa_cons (sh_val (se_un un_neg ok_neg (sh_val (se_int)))) (sa_cons (sh_val (xv)) (sa_nil)))) (blkOk_by (N := ["_law_words", "_law_shape", "_law_names", "_law_i", "_law_seats", "_law_k", "_law_found", "_law_word", "_law_spot", "_law_held"]) (sc := defScope st__law_lines) (by decide +kernel)) (fun _ _ _ _ _ => sg_name (i := 5) rfl sc__law_lines.nd rfl (by first | exact .inl rfl | exact .inr rfl)) (fun _ _ _ _ _ => sbs_nil) (fun _ _ _ _ _ => se_tup (sa_cons (sh_val (xv)) (sa_cons (sh_val (xv)) (sa_nil)))) (by decide) (by decide)))) (sa_nil)))))) (ss_frz 2 rfl (ss_cons (ss_own (i := 6) rfl sc__law_lines.nd rfl (by first | exact .inl rfl | exact .inr rfl) (sf_lst (sa_nil))) (ss_cons (ss_for PassesOwn.never rfl (si_seq (xv)) (sg_name (i := 7) rfl sc__law_lines.nd rfl (by first | exact .inl rfl | exact .inr rfl)) (ss_one (ss_expr (se_extend (i := 6) rfl (by first | exact .inl rfl | exact .inr (.inl rfl) | exact .inr (.inr rfl)) rfl (sa_cons (sh_val (se_of (sf_lc (ow := [("_law_spot", 8)]) rfl sc__law_lines.nd (si_seq (xv)) (blkOk_by (N := ["_law_words", "_law_shape", "_law_names", "_law_i", "_law_seats", "_law_k", "_law_found", "_law_word", "_law_spot", "_law_held"]) (sc := defScope st__law_lines) (by decide +kernel)) (fun _ _ _ _ _ => sg_name (i := 8) rfl sc__law_lines.nd rfl (by first | exact .inl rfl | exact .inr rfl)) (fun _ _ _ _ _ => sbs_nil) (fun _ _ _ _ _ => se_tup (sa_cons (sh_val (xv)) (sa_cons (sh_val (xv)) (sa_nil)))) (by decide) (by decide)))) (sa_nil)))))) (ss_frz 6 rfl (ss_cons (ss_set (i := 9) rfl sc__law_lines.nd rfl (by first | exact .inl rfl | exact .inr rfl) (se_op2 op_addU ok_add (sh_val (se_op2 op_addU ok_add (sh_val (se_of (sf_lst (sa_cons (sh_val (se_tup (sa_cons (sh_val (se_un un_neg ok_neg (sh_val (se_int)))) (sa_cons (sh_val (se_un un_neg ok_neg (sh_val (se_int)))) (sa_nil))))) (sa_nil))))) (sh_val (se_of (sf_lc (ow := [("_law_i", 3)]) rfl sc__law_lines.nd (si_range1 rfl C.m_range (sa_cons (sh_val (se_callB cr_lenU ok_len rfl C.m_len bt_len (sa_cons (sh_val (xv)) (sa_nil)))) (sa_nil))) (blkOk_by (N := ["_law_words", "_law_shape", "_law_names", "_law_i", "_law_seats", "_law_k", "_law_found", "_law_word", "_law_spot", "_law_held"]) (sc := defScope st__law_lines) (by decide +kernel)) (fun _ _ _ _ _ => sg_name (i := 3) rfl sc__law_lines.nd rfl (by first | exact .inl rfl | exact .inr rfl)) (fun _ _ _ _ _ => sbs_nil) (fun _ _ _ _ _ => se_tup (sa_cons (sh_val (se_un un_neg ok_neg (sh_val (se_int)))) (sa_cons (sh_val (xv)) (sa_nil)))) (by decide) (by decide)))))) (sh_val (se_op2 op_mulU ok_mul (sh_val (se_of (sf_lst (sa_cons (sh_val (se_tup (sa_cons (sh_val (se_int)) (sa_cons (sh_val (se_int)) (sa_nil))))) (sa_nil))))) (sh_val (se_callTy call_int1 ok_int rfl C.m_int bt_int (sa_cons (sh_val (se_cmp (op_eqD h4) ok_eqD (sh_val (se_callB cr_lenU ok_len rfl C.m_len bt_len (sa_cons (sh_val (xv)) (sa_nil)))) (sh_val (se_int)))) (sa_nil)))))))) (ss_one (ss_ret (se_op2 op_addU ok_add (sh_val (xv)) (sh_val (se_of (sf_lc (ow := [("_law_spot", 8)]) rfl sc__law_lines.nd (si_seq (xv)) (blkOk_by (N := ["_law_words", "_law_shape", "_law_names", "_law_i", "_law_seats", "_law_k", "_law_found", "_law_word", "_law_spot", "_law_held"]) (sc := defScope st__law_lines) (by decide +kernel)) (fun _ _ _ _ _ => sg_name (i := 8) rfl sc__law_lines.nd rfl (by first | exact .inl rfl | exact .inr rfl)) (fun _ _ _ _ _ => sbs_nil) (fun _ _ _ _ _ => se_tup (sa_cons (sh_val (se_str)) (sa_cons (sh_val (xv)) (sa_nil)))) (by decide) (by decide)))))))))))))
abbrev st__law_there : Stmt := top 13
theorem sc__law_there : FnScope ["_law_shape", "_law_word", "_law_spot", "_law_found", "_law_i", "_law_seats", "_law_k"] ["_law_shape", "_law_word", "_law_spot"] (defScope st__law_there) := ⟨rfl, rfl, rfl, by decide +kernel, rfl, by decide +kernel, by decide +kernel⟩
def d__law_there : Den Fl := sSeq (sSet 3 (eC (.dit []))) (sSeq (sFor (iEnum (aCons (hVal (eVar 0)) (aNil))) (.tp [.nm 4, .nm 5]) (sPut 3 (hVal (eTup (aCons (hVal (eVar 4)) (aNil)))) (eLc (iRange1 (aCons (hVal (eVar 5)) (aNil))) [6] (.nm 6) (.ret true) (eTup (aCons (hVal (eVar 4)) (aCons (hVal (eVar 6)) (aNil))))))) (sSeq (sIf (bOf (eOp gEq (hVal (eVar 1)) (hVal (eC (.str "join"))))) (sIf (bOf (eOp gGe (hVal (eOp gIxA (hVal (eVar 2)) (hVal (eC (.int 0))))) (hVal (eC (.int 0))))) (sPut 3 (hVal (eTup (aCons (hVal (eOp gIxA (hVal (eVar 2)) (hVal (eC (.int 0))))) (aNil)))) (eOp gAdd (hVal (eOp gIxA (hSlot 3) (hVal (eTup (aCons (hVal (eOp gIxA (hVal (eVar 2)) (hVal (eC (.int 0))))) (aNil)))))) (hVal (ePopN 3 (aCons (hVal (eTup (aCons (hVal (eOp gIxA (hVal (eVar 2)) (hVal (eC (.int 1))))) (aNil)))) (aNil)))))) (sIf (bOf (eOp gLt (hVal (eOp gIxA (hVal (eVar 2)) (hVal (eC (.int 1))))) (hVal (eC (.int 0))))) (sPut 3 (hVal (eTup (aCons (hVal (eUn gNeg (hVal (eC (.int 1))))) (aNil)))) (eLst (aNil))) (sNx))) (sIf (bOf (eOp gEq (hVal (eVar 2)) (hVal (eTup (aCons (hVal (eUn gNeg (hVal (eC (.int 1))))) (aCons (hVal (eUn gNeg (hVal (eC (.int 1))))) (aNil))))))) (sPut 3 (hVal (eTup (aCons (hVal (eUn gNeg (hVal (eC (.int 1))))) (aNil)))) (eLst (aCons (hVal (eTup (aCons (hVal (eUn gNeg (hVal (eC (.int 1))))) (aCons (hVal (eUn gNeg (hVal (eC (.int 1))))) (aNil))))) (aNil)))) (sIf (bOf (eOp gEq (hVal (eOp gIxA (hVal (eVar 2)) (hVal (eC (.int 1))))) (hVal (eUn gNeg (hVal (eC (.int 1))))))) (sPut 3 (hVal (eTup (aCons (hVal (eOp gIxA (hVal (eVar 2)) (hVal (eC (.int 0))))) (aNil)))) (eOp gAdd (hVal (eLst (aCons (hVal (eVar 2)) (aNil)))) (hVal (eOp gIxA (hSlot 3) (hVal (eTup (aCons (hVal (eOp gIxA (hVal (eVar 2)) (hVal (eC (.int 0))))) (aNil)))))))) (sNx)))) (sFrz 3 (sRet (eVar 3)))))
def fn__law_there : Fn := runFn 7 d__law_there
set_option maxRecDepth 100000 in
theorem ok__law_there {f : Addr} {fd : FuncData} (C : Mod ⟨K, P, w⟩ mg) (F : FunD K "_law_there" "_law_there" (defArgs st__law_there) (defBody st__law_there) (defScope st__law_there) [] [] f fd) :
    FnOk P w K mg base CX0 1 f fd ["_law_shape", "_law_word", "_law_spot"] (SpD ⟨K, P, w⟩ cls 3 fn__law_there) := by
  refine fn_ok (N := ["_law_shape", "_law_word", "_law_spot", "_law_found", "_law_i", "_law_seats", "_law_k"]) (ps := ["_law_shape", "_law_word", "_law_spot"]) (den := d__law_there) (own := ownL [3]) F sc__law_there (by decide) fun cdv A outer s H E hr => ?_
  have hu : (A.deeper (PyProof.Rows.envOfC "_law_there" (defScope st__law_there) s.heap.objs.size f cdv)).units + 65 < cLine := by have := hr.un; omega
  have h4 := Nat.lt_of_succ_lt hu
  exact ss_cons (ss_own (i := 3) rfl sc__law_there.nd rfl (by first | exact .inl rfl | exact .inr rfl) (sf_dit)) (ss_cons (ss_for PassesOwn.never rfl (si_enum rfl C.m_enumerate (sa_cons (sh_val (xv)) (sa_nil))) (sg_tup rfl (sgs_cons (sg_name (i := 4) rfl sc__law_there.nd rfl (by first | exact .inl rfl | exact .inr rfl)) (sgs_cons (sg_name (i := 5) rfl sc__law_there.nd rfl (by first | exact .inl rfl | exact .inr rfl)) (sgs_nil))) rfl) (ss_one (ss_put hu (i := 3) rfl (by first | exact .inl rfl | exact .inr (.inl rfl) | exact .inr (.inr rfl)) rfl (sh_val (se_tup (sa_cons (sh_val (xv)) (sa_nil)))) (se_of (sf_lc (ow := [("_law_k", 6)]) rfl sc__law_there.nd (si_range1 rfl C.m_range (sa_cons (sh_val (xv)) (sa_nil))) (blkOk_by (N := ["_law_shape", "_law_word", "_law_spot", "_law_found", "_law_i", "_law_seats", "_law_k"]) (sc := defScope st__law_there) (by decide +kernel)) (fun _ _ _ _ _ => sg_name (i := 6) rfl sc__law_there.nd rfl (by first | exact .inl rfl | exact .inr rfl)) (fun _ _ _ _ _ => sbs_nil) (fun _ _ _ _ _ => se_tup (sa_cons (sh_val (xv)) (sa_cons (sh_val (xv)) (sa_nil)))) (by decide) (by decide)))))) (ss_cons (ss_if (sb_cmp (op_eqD h4) ok_eqD (sh_val (xv)) (sh_val (se_str))) (ss_one (ss_if (sb_cmp op_ge ok_I (sh_val (se_ixA hu (sh_val (xv)) (sh_val (se_int)) (by intro _ _; rfl))) (sh_val (se_int))) (ss_one (ss_put hu (i := 3) rfl (by first | exact .inl rfl | exact .inr (.inl rfl) | exact .inr (.inr rfl)) rfl (sh_val (se_tup (sa_cons (sh_val (se_ixA hu (sh_val (xv)) (sh_val (se_int)) (by intro _ _; rfl))) (sa_nil)))) (se_op2 op_addU ok_add (sh_val (se_ixA hu (xs) (sh_val (se_tup (sa_cons (sh_val (se_ixA hu (sh_val (xv)) (sh_val (se_int)) (by intro _ _; rfl))) (sa_nil)))) (by intro _ _; rfl))) (sh_val (se_popN hu (i := 3) rfl (by first | exact .inl rfl | exact .inr (.inl rfl) | exact .inr (.inr rfl)) rfl (sa_cons (sh_val (se_tup (sa_cons (sh_val (se_ixA hu (sh_val (xv)) (sh_val (se_int)) (by intro _ _; rfl))) (sa_nil)))) (sa_nil))))))) (ss_one (ss_if (sb_cmp op_ltU ok_lt (sh_val (se_ixA hu (sh_val (xv)) (sh_val (se_int)) (by intro _ _; rfl))) (sh_val (se_int))) (ss_one (ss_put hu (i := 3) rfl (by first | exact .inl rfl | exact .inr (.inl rfl) | exact .inr (.inr rfl)) rfl (sh_val (se_tup (sa_cons (sh_val (se_un un_neg ok_neg (sh_val (se_int)))) (sa_nil)))) (se_of (sf_lst (sa_nil))))) (ss_nil))))) (ss_one (ss_if (sb_cmp (op_eqD h4) ok_eqD (sh_val (xv)) (sh_val (se_tup (sa_cons (sh_val (se_un un_neg ok_neg (sh_val (se_int)))) (sa_cons (sh_val (se_un un_neg ok_neg (sh_val (se_int)))) (sa_nil)))))) (ss_one (ss_put hu (i := 3) rfl (by first | exact .inl rfl | exact .inr (.inl rfl) | exact .inr (.inr rfl)) rfl (sh_val (se_tup (sa_cons (sh_val (se_un un_neg ok_neg (sh_val (se_int)))) (sa_nil)))) (se_of (sf_lst (sa_cons (sh_val (se_tup (sa_cons (sh_val (se_un un_neg ok_neg (sh_val (se_int)))) (sa_cons (sh_val (se_un un_neg ok_neg (sh_val (se_int)))) (sa_nil))))) (sa_nil)))))) (ss_one (ss_if (sb_cmp (op_eqD h4) ok_eqD (sh_val (se_ixA hu (sh_val (xv)) (sh_val (se_int)) (by intro _ _; rfl))) (sh_val (se_un un_neg ok_neg (sh_val (se_int))))) (ss_one (ss_put hu (i := 3) rfl (by first | exact .inl rfl | exact .inr (.inl rfl) | exact .inr (.inr rfl)) rfl (sh_val (se_tup (sa_cons (sh_val (se_ixA hu (sh_val (xv)) (sh_val (se_int)) (by intro _ _; rfl))) (sa_nil)))) (se_op2 op_addU ok_add (sh_val (se_of (sf_lst (sa_cons (sh_val (xv)) (sa_nil))))) (sh_val (se_ixA hu (xs) (sh_val (se_tup (sa_cons (sh_val (se_ixA hu (sh_val (xv)) (sh_val (se_int)) (by intro _ _; rfl))) (sa_nil)))) (by intro _ _; rfl)))))) (ss_nil)))))) (ss_frz 3 rfl (ss_one (ss_ret (xv))))))
abbrev st__law_frames : Stmt := top 14
theorem sc__law_frames : FnScope ["_law_found", "_law_one", "_law_other"] [] (defScope st__law_frames) := ⟨rfl, rfl, rfl, by decide +kernel, rfl, by decide +kernel, by decide +kernel⟩
def d__law_frames : Den Fl := sSeq (sSet 0 (eOp gAddL (hVal (eLst (aCons (hVal (eTup (aNil))) (aNil)))) (hVal (eLc (iRange1 (aCons (hVal (eC (.int 3))) (aNil))) [1] (.nm 1) (.ret true) (eTup (aCons (hVal (eVar 1)) (aNil))))))) (sSeq (sFor (iRange1 (aCons (hVal (eC (.int 3))) (aNil))) (.nm 1) (sDrop (eMut 0 gExtend (aLooks (aCons (hVal (eLc (iRange1 (aCons (hVal (eC (.int 3))) (aNil))) [2] (.nm 2) (.ret true) (eTup (aCons (hVal (eVar 1)) (aCons (hVal (eVar 2)) (aNil)))))) (aNil)))))) (sFrz 0 (sRet (eVar 0))))
def fn__law_frames : Fn := runFn 3 d__law_frames
set_option maxRecDepth 100000 in
theorem ok__law_frames {f : Addr} {fd : FuncData} (C : Mod ⟨K, P, w⟩ mg) (F : FunD K "_law_frames" "_law_frames" (defArgs st__law_frames) (defBody st__law_frames) (defScope st__law_frames) [] [] f fd) :
    FnOk P w K mg base CX0 1 f fd [] (SpD ⟨K, P, w⟩ cls 0 fn__law_frames) := by
  refine fn_ok (N := ["_law_found", "_law_one", "_law_other"]) (ps := []) (den := d__law_frames) (own := ownL [0]) F sc__law_frames (by decide) fun cdv A outer s H E hr => ?_
  have hu : (A.deeper (PyProof.Rows.envOfC "_law_frames" (defScope st__law_frames) s.heap.objs.size f cdv)).units + 65 < cLine := by have := hr.un; omega
  have h4 := Nat.lt_of_succ_lt hu
  exact ss_cons (ss_own (i := 0) rfl sc__law_frames.nd rfl (by first | exact .inl rfl | exact .inr rfl) (sf_op2 op_addU ok_addL (sh_val (se_of (sf_lst (sa_cons (sh_val (se_tup (sa_nil))) (sa_nil))))) (sh_val (se_of (sf_lc (ow := [("_law_one", 1)]) rfl sc__law_frames.nd (si_range1 rfl C.m_range (sa_cons (sh_val (se_int)) (sa_nil))) (blkOk_by (N := ["_law_found", "_law_one", "_law_other"]) (sc := defScope st__law_frames) (by decide +kernel)) (fun _ _ _ _ _ => sg_name (i := 1) rfl sc__law_frames.nd rfl (by first | exact .inl rfl | exact .inr rfl)) (fun _ _ _ _ _ => sbs_nil) (fun _ _ _ _ _ => se_tup (sa_cons (sh_val (xv)) (sa_nil))) (by decide) (by decide)))))) (ss_cons (ss_for PassesOwn.never rfl (si_range1 rfl C.m_range (sa_cons (sh_val (se_int)) (sa_nil))) (sg_name (i := 1) rfl sc__law_frames.nd rfl (by first | exact .inl rfl | exact .inr rfl)) (ss_one (ss_expr (se_extend (i := 0) rfl (by first | exact .inl rfl | exact .inr (.inl rfl) | exact .inr (.inr rfl)) rfl (sa_cons (sh_val (se_of (sf_lc (ow := [("_law_other", 2)]) rfl sc__law_frames.nd (si_range1 rfl C.m_range (sa_cons (sh_val (se_int)) (sa_nil))) (blkOk_by (N := ["_law_found", "_law_one", "_law_other"]) (sc := defScope st__law_frames) (by decide +kernel)) (fun _ _ _ _ _ => sg_name (i := 2) rfl sc__law_frames.nd rfl (by first | exact .inl rfl | exact .inr rfl)) (fun _ _ _ _ _ => sbs_nil) (fun _ _ _ _ _ => se_tup (sa_cons (sh_val (xv)) (sa_cons (sh_val (xv)) (sa_nil)))) (by decide) (by decide)))) (sa_nil)))))) (ss_frz 0 rfl (ss_one (ss_ret (xv)))))
abbrev st_things : Stmt := top 9
theorem sc_things : FnScope ["frame", "case", "join", "held", "thing"] ["frame", "case", "join"] (defScope st_things) := ⟨rfl, rfl, rfl, by decide +kernel, rfl, by decide +kernel, by decide +kernel⟩
def d_things : Den Fl := sSeq (sSet 3 (eLc (iSeq (eCallK fn_held_things [.p 0] [] (aVals (aCons (hVal (eVar 0)) (aNil))) (aVals (aNil)))) [4] (.nm 4) (bOf (eOp gNe (hVal (eVar 4)) (hVal (eTup (aCons (hVal (eCallK fn_gone_house [.p 0, .p 1] [] (aVals (aCons (hVal (eVar 1)) (aCons (hVal (eVar 2)) (aNil)))) (aVals (aNil)))) (aNil)))))) (eVar 4))) (sRet (eFn gTuple (aCons (hVal (eFn gSorted (aCons (hVal (eOp gAdd (hVal (eVar 3)) (hVal (eCallK fn_read_things [.p 0, .p 1] [] (aVals (aCons (hVal (eVar 1)) (aCons (hVal (eVar 2)) (aNil)))) (aVals (aNil)))))) (aNil)))) (aNil))))
def fn_things : Fn := runFn 5 d_things
set_option maxRecDepth 100000 in
theorem ok_things {f : Addr} {fd : FuncData} (C : Mod ⟨K, P, w⟩ mg) (F : FunD K "things" "things" (defArgs st_things) (defBody st_things) (defScope st_things) [] [("join", .bl false)] f fd)
    {f_held_things : Addr} {fd_held_things : FuncData} (D_held_things : DefOk P w K mg base cls 1 "held_things" f_held_things fd_held_things ["frame"] fn_held_things)
    {f_gone_house : Addr} {fd_gone_house : FuncData} (D_gone_house : DefOk P w K mg base cls 1 "gone_house" f_gone_house fd_gone_house ["case", "join"] fn_gone_house)
    {f_read_things : Addr} {fd_read_things : FuncData} (D_read_things : DefOk P w K mg base cls 1 "read_things" f_read_things fd_read_things ["case", "join"] fn_read_things)
    {mv0 : List Value} (b0 : KBn K fd_held_things ["frame"] 1 [] (fun us ws => arr [.p 0] us mv0 ws) (fun vs zs => arr [.p 0] vs [] zs))
    {mv1 : List Value} (b1 : KBn K fd_gone_house ["case", "join"] 2 [] (fun us ws => arr [.p 0, .p 1] us mv1 ws) (fun vs zs => arr [.p 0, .p 1] vs [] zs))
    {mv2 : List Value} (b2 : KBn K fd_read_things ["case", "join"] 2 [] (fun us ws => arr [.p 0, .p 1] us mv2 ws) (fun vs zs => arr [.p 0, .p 1] vs [] zs)) :
    FnOk P w K mg base CX0 2 f fd ["frame", "case", "join"] (SpD ⟨K, P, w⟩ cls 3 fn_things) := by
  refine fn_ok (N := ["frame", "case", "join", "held", "thing"]) (ps := ["frame", "case", "join"]) (den := d_things) (own := ownL []) F sc_things (by decide) fun cdv A outer s H E hr => ?_
  have hu : (A.deeper (PyProof.Rows.envOfC "things" (defScope st_things) s.heap.objs.size f cdv)).units + 65 < cLine := by have := hr.un; omega
  have h4 := Nat.lt_of_succ_lt hu
  exact ss_cons (ss_setLc (i := 3) (ow := [("thing", 4)]) rfl rfl sc_things.nd rfl rfl rfl (si_seq (xc D_held_things hr b0 .nil (sa_cons (sh_val (xv)) (sa_nil)) (sk_nil) (fun vs zs l1 l2 => match vs, zs, l1, l2 with | [_], [], _, _ => rfl) (fun _ _ _ h => aCons_len (fun _ _ _ h => aNil_len h) h) (fun _ _ _ h => aNil_len h))) (blkOk_by (N := ["frame", "case", "join", "held", "thing"]) (sc := defScope st_things) (by decide +kernel)) (fun _ _ _ _ _ => sg_name (i := 4) rfl sc_things.nd rfl (by first | exact .inl rfl | exact .inr rfl)) (fun _ _ _ _ _ => sbs_one (sb_cmp (op_neD h4) ok_neD (sh_val (xv)) (sh_val (se_tup (sa_cons (sh_val (xc D_gone_house hr b1 .nil (sa_cons (sh_val (xv)) (sa_cons (sh_val (xv)) (sa_nil))) (sk_nil) (fun vs zs l1 l2 => match vs, zs, l1, l2 with | [_, _], [], _, _ => rfl) (fun _ _ _ h => aCons_len (fun _ _ _ h => aCons_len (fun _ _ _ h => aNil_len h) h) h) (fun _ _ _ h => aNil_len h))) (sa_nil)))))) (fun _ _ _ _ _ => xv) (by decide) (by decide)) (ss_one (ss_ret (se_callTy call_tuple_of ok_tuple rfl C.m_tuple bt_tuple (sa_cons (sh_val (se_of (sf_callB (cr_sortD rfl hu) ok_sorted rfl C.m_sorted bt_sorted (sa_cons (sh_val (se_op2 op_addU ok_add (sh_val (xv)) (sh_val (xc D_read_things hr b2 .nil (sa_cons (sh_val (xv)) (sa_cons (sh_val (xv)) (sa_nil))) (sk_nil) (fun vs zs l1 l2 => match vs, zs, l1, l2 with | [_, _], [], _, _ => rfl) (fun _ _ _ h => aCons_len (fun _ _ _ h => aCons_len (fun _ _ _ h => aNil_len h) h) h) (fun _ _ _ h => aNil_len h))))) (sa_nil))))) (sa_nil)))))
abbrev st_beneath : Stmt := top 10
theorem sc_beneath : FnScope ["frame", "case", "thing", "join"] ["frame", "case", "thing", "join"] (defScope st_beneath) := ⟨rfl, rfl, rfl, by decide +kernel, rfl, by decide +kernel, by decide +kernel⟩
def d_beneath : Den Fl := sSeq (sIf (bOf (eOp gNotInA (hVal (eVar 2)) (hVal (eCallK fn_things [.p 0, .p 1, .k 0] [] (aVals (aCons (hVal (eVar 0)) (aCons (hVal (eVar 1)) (aNil)))) (aVals (aCons (hVal (eVar 3)) (aNil))))))) (sRet (eC .non)) (sNx)) (sRet (eIf (bOf (eOp gEq (hVal (eOp gIxA (hVal (eVar 2)) (hVal (eC (.int 0))))) (hVal (eCallK fn_gone_house [.p 0, .p 1] [] (aVals (aCons (hVal (eVar 1)) (aCons (hVal (eVar 3)) (aNil)))) (aVals (aNil)))))) (eTup (aCons (hVal (eOp gIxA (hVal (eVar 1)) (hVal (eC (.int 0))))) (aNil))) (eCut (hVal (eVar 2)) (pNo) (pInt (eC (.int 1))))))
def fn_beneath : Fn := runFn 4 d_beneath
set_option maxRecDepth 100000 in
theorem ok_beneath {f : Addr} {fd : FuncData} (C : Mod ⟨K, P, w⟩ mg) (F : FunD K "beneath" "beneath" (defArgs st_beneath) (defBody st_beneath) (defScope st_beneath) [] [("join", .bl false)] f fd)
    {f_things : Addr} {fd_things : FuncData} (D_things : DefOk P w K mg base cls 2 "things" f_things fd_things ["frame", "case", "join"] fn_things)
    {f_gone_house : Addr} {fd_gone_house : FuncData} (D_gone_house : DefOk P w K mg base cls 1 "gone_house" f_gone_house fd_gone_house ["case", "join"] fn_gone_house)
    {mv1 : List Value} (b1 : KBn K fd_gone_house ["case", "join"] 2 [] (fun us ws => arr [.p 0, .p 1] us mv1 ws) (fun vs zs => arr [.p 0, .p 1] vs [] zs))
    {mv3 : List Value} (b3 : KBn K fd_things ["frame", "case", "join"] 2 ["join"] (fun us ws => arr [.p 0, .p 1, .k 0] us mv3 ws) (fun vs zs => arr [.p 0, .p 1, .k 0] vs [] zs)) :
    FnOk P w K mg base CX0 3 f fd ["frame", "case", "thing", "join"] (SpD ⟨K, P, w⟩ cls 4 fn_beneath) := by
  refine fn_ok (N := ["frame", "case", "thing", "join"]) (ps := ["frame", "case", "thing", "join"]) (den := d_beneath) (own := ownL []) F sc_beneath (by decide) fun cdv A outer s H E hr => ?_
  have hu : (A.deeper (PyProof.Rows.envOfC "beneath" (defScope st_beneath) s.heap.objs.size f cdv)).units + 65 < cLine := by have := hr.un; omega
  have h4 := Nat.lt_of_succ_lt hu
  exact ss_cons (ss_if (sb_cmp (op_notInA hu) ok_notInA (sh_val (xv)) (sh_val (xc D_things hr b3 .nil (sa_cons (sh_val (xv)) (sa_cons (sh_val (xv)) (sa_nil))) (sk_cons (sh_val (xv)) (sk_nil)) (fun vs zs l1 l2 => match vs, zs, l1, l2 with | [_, _], [_], _, _ => rfl) (fun _ _ _ h => aCons_len (fun _ _ _ h => aCons_len (fun _ _ _ h => aNil_len h) h) h) (fun _ _ _ h => aCons_len (fun _ _ _ h => aNil_len h) h)))) (ss_one (ss_ret (se_non))) (ss_nil)) (ss_one (ss_ret (se_if (sb_cmp (op_eqD h4) ok_eqD (sh_val (se_ixA hu (sh_val (xv)) (sh_val (se_int)) (by intro _ _; rfl))) (sh_val (xc D_gone_house hr b1 .nil (sa_cons (sh_val (xv)) (sa_cons (sh_val (xv)) (sa_nil))) (sk_nil) (fun vs zs l1 l2 => match vs, zs, l1, l2 with | [_, _], [], _, _ => rfl) (fun _ _ _ h => aCons_len (fun _ _ _ h => aCons_len (fun _ _ _ h => aNil_len h) h) h) (fun _ _ _ h => aNil_len h)))) (se_tup (sa_cons (sh_val (se_ixA hu (sh_val (xv)) (sh_val (se_int)) (by intro _ _; rfl))) (sa_nil))) (se_cut (sh_val (xv)) (sp_no) (sp_int (se_int))))))
abbrev st__law_case_right : Stmt := top 15
theorem sc__law_case_right : FnScope ["_law_shape", "_law_word", "_law_spot", "_law_there_here", "_law_is_join", "_law_due", "_law_house", "_law_name"] ["_law_shape", "_law_word", "_law_spot"] (defScope st__law_case_right) := ⟨rfl, rfl, rfl, by decide +kernel, rfl, by decide +kernel, by decide +kernel⟩
def d__law_case_right : Den Fl := sSeq (sPar 3 4 (aCons (hVal (eCallK fn__law_there [.p 0, .p 1, .p 2] [] (aVals (aCons (hVal (eVar 0)) (aCons (hVal (eVar 1)) (aCons (hVal (eVar 2)) (aNil))))) (aVals (aNil)))) (aCons (hVal (eOp gEq (hVal (eVar 1)) (hVal (eC (.str "join"))))) (aNil)))) (sSeq (sSet 5 (eLst (aNil))) (sSeq (sFor (iSeq (eFn gSorted (aCons (hVal (eVar 3)) (aNil)))) (.nm 6) (sDrop (eMut 5 gExtend (aLooks (aCons (hVal (eOp gAdd (hVal (eLst (aCons (hVal (eVar 6)) (aNil)))) (hVal (eOp gIxA (hVal (eVar 3)) (hVal (eVar 6)))))) (aNil)))))) (sFrz 5 (sSeq (sIf (bOf (eOp gNe (hVal (eCallK fn_things [.p 0, .p 1, .k 0] [] (aVals (aCons (hVal (eVar 0)) (aCons (hVal (eVar 2)) (aNil)))) (aVals (aCons (hVal (eVar 4)) (aNil))))) (hVal (eFn gTuple (aCons (hVal (eFn gSorted (aCons (hVal (eVar 5)) (aNil)))) (aNil)))))) (sRet (eC (.bl false))) (sNx)) (sSeq (sIf (bAnd (bNot (bTru (hVal (eVar 4)))) (bOf (eOp gNe (hVal (eCallK fn_things [.k 1, .k 0, .d 0] [(.bl false)] (aVals (aNil)) (aVals (aCons (hVal (eVar 2)) (aCons (hVal (eVar 0)) (aNil)))))) (hVal (eFn gTuple (aCons (hVal (eFn gSorted (aCons (hVal (eVar 5)) (aNil)))) (aNil))))))) (sRet (eC (.bl false))) (sNx)) (sSeq (sFor (iSeq (eFn gSorted (aCons (hVal (eVar 3)) (aNil)))) (.nm 6) (sFor (iSeq (eOp gIxA (hVal (eVar 3)) (hVal (eVar 6)))) (.nm 7) (sSeq (sIf (bOf (eOp gNe (hVal (eCallK fn_beneath [.p 0, .p 1, .p 2, .k 0] [] (aVals (aCons (hVal (eVar 0)) (aCons (hVal (eVar 2)) (aCons (hVal (eVar 7)) (aNil))))) (aVals (aCons (hVal (eVar 4)) (aNil))))) (hVal (eVar 6)))) (sRet (eC (.bl false))) (sNx)) (sIf (bOf (eOp gNe (hVal (eCallK fn_beneath [.k 3, .k 2, .k 1, .k 0] [] (aVals (aNil)) (aVals (aCons (hVal (eVar 4)) (aCons (hVal (eVar 7)) (aCons (hVal (eVar 2)) (aCons (hVal (eVar 0)) (aNil)))))))) (hVal (eVar 6)))) (sRet (eC (.bl false))) (sNx))))) (sRet (eC (.bl true)))))))))
def fn__law_case_right : Fn := runFn 8 d__law_case_right
set_option maxRecDepth 100000 in
theorem ok__law_case_right {f : Addr} {fd : FuncData} (C : Mod ⟨K, P, w⟩ mg) (F : FunD K "_law_case_right" "_law_case_right" (defArgs st__law_case_right) (defBody st__law_case_right) (defScope st__law_case_right) [] [] f fd)
    {f__law_there : Addr} {fd__law_there : FuncData} (D__law_there : DefOk P w K mg base cls 1 "_law_there" f__law_there fd__law_there ["_law_shape", "_law_word", "_law_spot"] fn__law_there)
    {f_things : Addr} {fd_things : FuncData} (D_things : DefOk P w K mg base cls 2 "things" f_things fd_things ["frame", "case", "join"] fn_things)
    {f_beneath : Addr} {fd_beneath : FuncData} (D_beneath : DefOk P w K mg base cls 3 "beneath" f_beneath fd_beneath ["frame", "case", "thing", "join"] fn_beneath)
    {mv3 : List Value} (b3 : KBn K fd_things ["frame", "case", "join"] 2 ["join"] (fun us ws => arr [.p 0, .p 1, .k 0] us mv3 ws) (fun vs zs => arr [.p 0, .p 1, .k 0] vs [] zs))
    {mv4 : List Value} (b4 : KBn K fd__law_there ["_law_shape", "_law_word", "_law_spot"] 3 [] (fun us ws => arr [.p 0, .p 1, .p 2] us mv4 ws) (fun vs zs => arr [.p 0, .p 1, .p 2] vs [] zs))
    {mv5 : List Value} (b5 : KBn K fd_things ["frame", "case", "join"] 0 ["case", "frame"] (fun us ws => arr [.k 1, .k 0, .d 0] us mv5 ws) (fun vs zs => arr [.k 1, .k 0, .d 0] vs [.bl false] zs))
    {mv6 : List Value} (b6 : KBn K fd_beneath ["frame", "case", "thing", "join"] 3 ["join"] (fun us ws => arr [.p 0, .p 1, .p 2, .k 0] us mv6 ws) (fun vs zs => arr [.p 0, .p 1, .p 2, .k 0] vs [] zs))
    {mv7 : List Value} (b7 : KBn K fd_beneath ["frame", "case", "thing", "join"] 0 ["join", "thing", "case", "frame"] (fun us ws => arr [.k 3, .k 2, .k 1, .k 0] us mv7 ws) (fun vs zs => arr [.k 3, .k 2, .k 1, .k 0] vs [] zs)) :
    FnOk P w K mg base CX0 4 f fd ["_law_shape", "_law_word", "_law_spot"] (SpD ⟨K, P, w⟩ cls 3 fn__law_case_right) := by
  refine fn_ok (N := ["_law_shape", "_law_word", "_law_spot", "_law_there_here", "_law_is_join", "_law_due", "_law_house", "_law_name"]) (ps := ["_law_shape", "_law_word", "_law_spot"]) (den := d__law_case_right) (own := ownL [5]) F sc__law_case_right (by decide) fun cdv A outer s H E hr => ?_
  have hu : (A.deeper (PyProof.Rows.envOfC "_law_case_right" (defScope st__law_case_right) s.heap.objs.size f cdv)).units + 65 < cLine := by have := hr.un; omega
  have h4 := Nat.lt_of_succ_lt hu
  exact ss_cons (ss_par rfl rfl rfl sc__law_case_right.nd rfl rfl (by decide) rfl rfl (sa_cons (sh_val (xc D__law_there hr b4 .nil (sa_cons (sh_val (xv)) (sa_cons (sh_val (xv)) (sa_cons (sh_val (xv)) (sa_nil)))) (sk_nil) (fun vs zs l1 l2 => match vs, zs, l1, l2 with | [_, _, _], [], _, _ => rfl) (fun _ _ _ h => aCons_len (fun _ _ _ h => aCons_len (fun _ _ _ h => aCons_len (fun _ _ _ h => aNil_len h) h) h) h) (fun _ _ _ h => aNil_len h))) (sa_cons (sh_val (se_cmp (op_eqD h4) ok_eqD (sh_val (xv)) (sh_val (se_str)))) (sa_nil))) rfl) (ss_cons (ss_own (i := 5) rfl sc__law_case_right.nd rfl (by first | exact .inl rfl | exact .inr rfl) (sf_lst (sa_nil))) (ss_cons (ss_for PassesOwn.never rfl (si_seq (se_of (sf_callB (cr_sortD rfl hu) ok_sorted rfl C.m_sorted bt_sorted (sa_cons (sh_val (xv)) (sa_nil))))) (sg_name (i := 6) rfl sc__law_case_right.nd rfl (by first | exact .inl rfl | exact .inr rfl)) (ss_one (ss_expr (se_extend (i := 5) rfl (by first | exact .inl rfl | exact .inr (.inl rfl) | exact .inr (.inr rfl)) rfl (sa_cons (sh_val (se_op2 op_addU ok_add (sh_val (se_of (sf_lst (sa_cons (sh_val (xv)) (sa_nil))))) (sh_val (se_ixA hu (sh_val (xv)) (sh_val (xv)) (by intro _ _; rfl))))) (sa_nil)))))) (ss_frz 5 rfl (ss_cons (ss_if (sb_cmp (op_neD h4) ok_neD (sh_val (xc D_things hr b3 .nil (sa_cons (sh_val (xv)) (sa_cons (sh_val (xv)) (sa_nil))) (sk_cons (sh_val (xv)) (sk_nil)) (fun vs zs l1 l2 => match vs, zs, l1, l2 with | [_, _], [_], _, _ => rfl) (fun _ _ _ h => aCons_len (fun _ _ _ h => aCons_len (fun _ _ _ h => aNil_len h) h) h) (fun _ _ _ h => aCons_len (fun _ _ _ h => aNil_len h) h))) (sh_val (se_callTy call_tuple_of ok_tuple rfl C.m_tuple bt_tuple (sa_cons (sh_val (se_of (sf_callB (cr_sortD rfl hu) ok_sorted rfl C.m_sorted bt_sorted (sa_cons (sh_val (xv)) (sa_nil))))) (sa_nil))))) (ss_one (ss_ret (se_bl))) (ss_nil)) (ss_cons (ss_if (sb_w (sw_and (sb_not (sb_tru (sh_val (xv)))) (sw_and1 (sb_cmp (op_neD h4) ok_neD (sh_val (xc0 D_things hr b5 (.cons (.bl _) .nil) (sk_cons (sh_val (xv)) (sk_cons (sh_val (xv)) (sk_nil))) (fun vs zs l1 l2 => match vs, zs, l1, l2 with | [], [_, _], _, _ => rfl) (fun _ _ _ h => aCons_len (fun _ _ _ h => aCons_len (fun _ _ _ h => aNil_len h) h) h))) (sh_val (se_callTy call_tuple_of ok_tuple rfl C.m_tuple bt_tuple (sa_cons (sh_val (se_of (sf_callB (cr_sortD rfl hu) ok_sorted rfl C.m_sorted bt_sorted (sa_cons (sh_val (xv)) (sa_nil))))) (sa_nil)))))))) (ss_one (ss_ret (se_bl))) (ss_nil)) (ss_cons (ss_for PassesOwn.never rfl (si_seq (se_of (sf_callB (cr_sortD rfl hu) ok_sorted rfl C.m_sorted bt_sorted (sa_cons (sh_val (xv)) (sa_nil))))) (sg_name (i := 6) rfl sc__law_case_right.nd rfl (by first | exact .inl rfl | exact .inr rfl)) (ss_one (ss_for PassesOwn.never rfl (si_seq (se_ixA hu (sh_val (xv)) (sh_val (xv)) (by intro _ _; rfl))) (sg_name (i := 7) rfl sc__law_case_right.nd rfl (by first | exact .inl rfl | exact .inr rfl)) (ss_cons (ss_if (sb_cmp (op_neD h4) ok_neD (sh_val (xc D_beneath hr b6 .nil (sa_cons (sh_val (xv)) (sa_cons (sh_val (xv)) (sa_cons (sh_val (xv)) (sa_nil)))) (sk_cons (sh_val (xv)) (sk_nil)) (fun vs zs l1 l2 => match vs, zs, l1, l2 with | [_, _, _], [_], _, _ => rfl) (fun _ _ _ h => aCons_len (fun _ _ _ h => aCons_len (fun _ _ _ h => aCons_len (fun _ _ _ h => aNil_len h) h) h) h) (fun _ _ _ h => aCons_len (fun _ _ _ h => aNil_len h) h))) (sh_val (xv))) (ss_one (ss_ret (se_bl))) (ss_nil)) (ss_one (ss_if (sb_cmp (op_neD h4) ok_neD (sh_val (xc0 D_beneath hr b7 .nil (sk_cons (sh_val (xv)) (sk_cons (sh_val (xv)) (sk_cons (sh_val (xv)) (sk_cons (sh_val (xv)) (sk_nil))))) (fun vs zs l1 l2 => match vs, zs, l1, l2 with | [], [_, _, _, _], _, _ => rfl) (fun _ _ _ h => aCons_len (fun _ _ _ h => aCons_len (fun _ _ _ h => aCons_len (fun _ _ _ h => aCons_len (fun _ _ _ h => aNil_len h) h) h) h) h))) (sh_val (xv))) (ss_one (ss_ret (se_bl))) (ss_nil))))))) (ss_one (ss_ret (se_bl)))))))))
abbrev st_law : Stmt := top 16
theorem sc_law : FnScope ["_law_script", "_law_shape", "_law_lines_here", "_law_words", "_law_word", "_law_spot", "_law_joins", "_law_seats"] ["_law_script"] (defScope st_law) := ⟨rfl, rfl, rfl, by decide +kernel, rfl, by decide +kernel, by decide +kernel⟩
def d_law : Den Fl := sSeq (sFor (iSeq (eCallK fn__law_frames [] [] (aVals (aNil)) (aVals (aNil)))) (.nm 1) (sSeq (sSet 2 (eCallK fn__law_lines [.p 0, .p 1] [] (aVals (aCons (hVal (eTup (aCons (hVal (eC (.str "a"))) (aNil)))) (aCons (hVal (eVar 1)) (aNil)))) (aVals (aNil)))) (sSeq (sSet 3 (eFn gTuple (aCons (hVal (eLc (iSeq (eVar 2)) [4, 5] (.tp [.nm 4, .nm 5]) (bOf (eOp gEq (hVal (eVar 4)) (hVal (eC (.str "a"))))) (eVar 5))) (aNil)))) (sSeq (sSet 6 (eFn gTuple (aCons (hVal (eLc (iSeq (eVar 2)) [4, 5] (.tp [.nm 4, .nm 5]) (bOf (eOp gEq (hVal (eVar 4)) (hVal (eC (.str "join"))))) (eVar 5))) (aNil)))) (sSeq (sIf (bOr (bOf (eOp gNe (hVal (eCallK fn_cases [.p 0] [] (aVals (aCons (hVal (eVar 1)) (aNil))) (aVals (aNil)))) (hVal (eFn gTuple (aCons (hVal (eFn gSorted (aCons (hVal (eVar 3)) (aNil)))) (aNil)))))) (bOf (eOp gNe (hVal (eCallK fn_join_cases [.k 0] [] (aVals (aNil)) (aVals (aCons (hVal (eVar 1)) (aNil))))) (hVal (eFn gTuple (aCons (hVal (eFn gSorted (aCons (hVal (eVar 6)) (aNil)))) (aNil))))))) (sRet (eC (.bl false))) (sNx)) (sSeq (sIf (bOr (bOf (eOp gNe (hVal (eCallK fn_cases [.k 0] [] (aVals (aNil)) (aVals (aCons (hVal (eVar 1)) (aNil))))) (hVal (eVar 3)))) (bOf (eOp gNe (hVal (eFn gLen (aCons (hVal (eVar 3)) (aNil)))) (hVal (eOp gAdd (hVal (eC (.int 1))) (hVal (eFn gSum (aCons (hVal (eLc (iSeq (eVar 1)) [7] (.nm 7) (.ret true) (eOp gAdd (hVal (eVar 7)) (hVal (eC (.int 1)))))) (aNil))))))))) (sRet (eC (.bl false))) (sNx)) (sIf (bNot (bTru (hVal (eFn gAll (aCons (hVal (eLc (iSeq (eVar 2)) [4, 5] (.tp [.nm 4, .nm 5]) (.ret true) (eCallK fn__law_case_right [.p 0, .p 1, .p 2] [] (aVals (aCons (hVal (eVar 1)) (aCons (hVal (eVar 4)) (aCons (hVal (eVar 5)) (aNil))))) (aVals (aNil))))) (aNil)))))) (sRet (eC (.bl false))) (sNx)))))))) (sRet (eC (.bl true)))
def fn_law : Fn := runFn 8 d_law
set_option maxRecDepth 100000 in
theorem ok_law {f : Addr} {fd : FuncData} (C : Mod ⟨K, P, w⟩ mg) (F : FunD K "law" "law" (defArgs st_law) (defBody st_law) (defScope st_law) [] [] f fd)
    {f__law_frames : Addr} {fd__law_frames : FuncData} (D__law_frames : DefOk P w K mg base cls 1 "_law_frames" f__law_frames fd__law_frames [] fn__law_frames)
    {f__law_lines : Addr} {fd__law_lines : FuncData} (D__law_lines : DefOk P w K mg base cls 1 "_law_lines" f__law_lines fd__law_lines ["_law_words", "_law_shape"] fn__law_lines)
    {f_cases : Addr} {fd_cases : FuncData} (D_cases : DefOk P w K mg base cls 1 "cases" f_cases fd_cases ["frame"] fn_cases)
    {f_join_cases : Addr} {fd_join_cases : FuncData} (D_join_cases : DefOk P w K mg base cls 1 "join_cases" f_join_cases fd_join_cases ["frame"] fn_join_cases)
    {f__law_case_right : Addr} {fd__law_case_right : FuncData} (D__law_case_right : DefOk P w K mg base cls 4 "_law_case_right" f__law_case_right fd__law_case_right ["_law_shape", "_law_word", "_law_spot"] fn__law_case_right)
    {mv8 : List Value} (b8 : KBn K fd__law_frames [] 0 [] (fun us ws => arr [] us mv8 ws) (fun vs zs => arr [] vs [] zs))
    {mv9 : List Value} (b9 : KBn K fd__law_lines ["_law_words", "_law_shape"] 2 [] (fun us ws => arr [.p 0, .p 1] us mv9 ws) (fun vs zs => arr [.p 0, .p 1] vs [] zs))
    {mv10 : List Value} (b10 : KBn K fd_cases ["frame"] 1 [] (fun us ws => arr [.p 0] us mv10 ws) (fun vs zs => arr [.p 0] vs [] zs))
    {mv11 : List Value} (b11 : KBn K fd_join_cases ["frame"] 0 ["frame"] (fun us ws => arr [.k 0] us mv11 ws) (fun vs zs => arr [.k 0] vs [] zs))
    {mv12 : List Value} (b12 : KBn K fd_cases ["frame"] 0 ["frame"] (fun us ws => arr [.k 0] us mv12 ws) (fun vs zs => arr [.k 0] vs [] zs))
    {mv13 : List Value} (b13 : KBn K fd__law_case_right ["_law_shape", "_law_word", "_law_spot"] 3 [] (fun us ws => arr [.p 0, .p 1, .p 2] us mv13 ws) (fun vs zs => arr [.p 0, .p 1, .p 2] vs [] zs)) :
    FnOk P w K mg base CX0 5 f fd ["_law_script"] (SpD ⟨K, P, w⟩ cls 1 fn_law) := by
  refine fn_ok (N := ["_law_script", "_law_shape", "_law_lines_here", "_law_words", "_law_word", "_law_spot", "_law_joins", "_law_seats"]) (ps := ["_law_script"]) (den := d_law) (own := ownL []) F sc_law (by decide) fun cdv A outer s H E hr => ?_
  have hu : (A.deeper (PyProof.Rows.envOfC "law" (defScope st_law) s.heap.objs.size f cdv)).units + 65 < cLine := by have := hr.un; omega
  have h4 := Nat.lt_of_succ_lt hu
  exact ss_cons (ss_for PassesOwn.never rfl (si_seq (xc0 D__law_frames hr b8 .nil (sk_nil) (fun vs zs l1 l2 => match vs, zs, l1, l2 with | [], [], _, _ => rfl) (fun _ _ _ h => aNil_len h))) (sg_name (i := 1) rfl sc_law.nd rfl (by first | exact .inl rfl | exact .inr rfl)) (ss_cons (ss_set (i := 2) rfl sc_law.nd rfl (by first | exact .inl rfl | exact .inr rfl) (xc D__law_lines hr b9 .nil (sa_cons (sh_val (se_tup (sa_cons (sh_val (se_str)) (sa_nil)))) (sa_cons (sh_val (xv)) (sa_nil))) (sk_nil) (fun vs zs l1 l2 => match vs, zs, l1, l2 with | [_, _], [], _, _ => rfl) (fun _ _ _ h => aCons_len (fun _ _ _ h => aCons_len (fun _ _ _ h => aNil_len h) h) h) (fun _ _ _ h => aNil_len h))) (ss_cons (ss_set (i := 3) rfl sc_law.nd rfl (by first | exact .inl rfl | exact .inr rfl) (se_callTy call_tuple_of ok_tuple rfl C.m_tuple bt_tuple (sa_cons (sh_val (se_of (sf_lc (ow := [("_law_word", 4), ("_law_spot", 5)]) rfl sc_law.nd (si_seq (xv)) (blkOk_by (N := ["_law_script", "_law_shape", "_law_lines_here", "_law_words", "_law_word", "_law_spot", "_law_joins", "_law_seats"]) (sc := defScope st_law) (by decide +kernel)) (fun _ _ _ _ _ => sg_tup rfl (sgs_cons (sg_name (i := 4) rfl sc_law.nd rfl (by first | exact .inl rfl | exact .inr rfl)) (sgs_cons (sg_name (i := 5) rfl sc_law.nd rfl (by first | exact .inl rfl | exact .inr rfl)) (sgs_nil))) rfl) (fun _ _ _ _ _ => sbs_one (sb_cmp (op_eqD h4) ok_eqD (sh_val (xv)) (sh_val (se_str)))) (fun _ _ _ _ _ => xv) (by decide) (by decide)))) (sa_nil)))) (ss_cons (ss_set (i := 6) rfl sc_law.nd rfl (by first | exact .inl rfl | exact .inr rfl) (se_callTy call_tuple_of ok_tuple rfl C.m_tuple bt_tuple (sa_cons (sh_val (se_of (sf_lc (ow := [("_law_word", 4), ("_law_spot", 5)]) rfl sc_law.nd (si_seq (xv)) (blkOk_by (N := ["_law_script", "_law_shape", "_law_lines_here", "_law_words", "_law_word", "_law_spot", "_law_joins", "_law_seats"]) (sc := defScope st_law) (by decide +kernel)) (fun _ _ _ _ _ => sg_tup rfl (sgs_cons (sg_name (i := 4) rfl sc_law.nd rfl (by first | exact .inl rfl | exact .inr rfl)) (sgs_cons (sg_name (i := 5) rfl sc_law.nd rfl (by first | exact .inl rfl | exact .inr rfl)) (sgs_nil))) rfl) (fun _ _ _ _ _ => sbs_one (sb_cmp (op_eqD h4) ok_eqD (sh_val (xv)) (sh_val (se_str)))) (fun _ _ _ _ _ => xv) (by decide) (by decide)))) (sa_nil)))) (ss_cons (ss_if (sb_w (sw_or (sb_cmp (op_neD h4) ok_neD (sh_val (xc D_cases hr b10 .nil (sa_cons (sh_val (xv)) (sa_nil)) (sk_nil) (fun vs zs l1 l2 => match vs, zs, l1, l2 with | [_], [], _, _ => rfl) (fun _ _ _ h => aCons_len (fun _ _ _ h => aNil_len h) h) (fun _ _ _ h => aNil_len h))) (sh_val (se_callTy call_tuple_of ok_tuple rfl C.m_tuple bt_tuple (sa_cons (sh_val (se_of (sf_callB (cr_sortD rfl hu) ok_sorted rfl C.m_sorted bt_sorted (sa_cons (sh_val (xv)) (sa_nil))))) (sa_nil))))) (sw_or1 (sb_cmp (op_neD h4) ok_neD (sh_val (xc0 D_join_cases hr b11 .nil (sk_cons (sh_val (xv)) (sk_nil)) (fun vs zs l1 l2 => match vs, zs, l1, l2 with | [], [_], _, _ => rfl) (fun _ _ _ h => aCons_len (fun _ _ _ h => aNil_len h) h))) (sh_val (se_callTy call_tuple_of ok_tuple rfl C.m_tuple bt_tuple (sa_cons (sh_val (se_of (sf_callB (cr_sortD rfl hu) ok_sorted rfl C.m_sorted bt_sorted (sa_cons (sh_val (xv)) (sa_nil))))) (sa_nil)))))))) (ss_one (ss_ret (se_bl))) (ss_nil)) (ss_cons (ss_if (sb_w (sw_or (sb_cmp (op_neD h4) ok_neD (sh_val (xc0 D_cases hr b12 .nil (sk_cons (sh_val (xv)) (sk_nil)) (fun vs zs l1 l2 => match vs, zs, l1, l2 with | [], [_], _, _ => rfl) (fun _ _ _ h => aCons_len (fun _ _ _ h => aNil_len h) h))) (sh_val (xv))) (sw_or1 (sb_cmp (op_neD h4) ok_neD (sh_val (se_callB cr_lenU ok_len rfl C.m_len bt_len (sa_cons (sh_val (xv)) (sa_nil)))) (sh_val (se_op2 op_addU ok_add (sh_val (se_int)) (sh_val (se_callB (cr_sum rfl) ok_sum rfl C.m_sum bt_sum (sa_cons (sh_val (se_of (sf_lc (ow := [("_law_seats", 7)]) rfl sc_law.nd (si_seq (xv)) (blkOk_by (N := ["_law_script", "_law_shape", "_law_lines_here", "_law_words", "_law_word", "_law_spot", "_law_joins", "_law_seats"]) (sc := defScope st_law) (by decide +kernel)) (fun _ _ _ _ _ => sg_name (i := 7) rfl sc_law.nd rfl (by first | exact .inl rfl | exact .inr rfl)) (fun _ _ _ _ _ => sbs_nil) (fun _ _ _ _ _ => se_op2 op_addU ok_add (sh_val (xv)) (sh_val (se_int))) (by decide) (by decide)))) (sa_nil)))))))))) (ss_one (ss_ret (se_bl))) (ss_nil)) (ss_one (ss_if (sb_not (sb_tru (sh_val (se_callB (cr_all rfl) ok_all rfl C.m_all bt_all (sa_cons (sh_val (se_of (sf_lc (ow := [("_law_word", 4), ("_law_spot", 5)]) rfl sc_law.nd (si_seq (xv)) (blkOk_by (N := ["_law_script", "_law_shape", "_law_lines_here", "_law_words", "_law_word", "_law_spot", "_law_joins", "_law_seats"]) (sc := defScope st_law) (by decide +kernel)) (fun _ _ _ _ _ => sg_tup rfl (sgs_cons (sg_name (i := 4) rfl sc_law.nd rfl (by first | exact .inl rfl | exact .inr rfl)) (sgs_cons (sg_name (i := 5) rfl sc_law.nd rfl (by first | exact .inl rfl | exact .inr rfl)) (sgs_nil))) rfl) (fun _ _ _ _ _ => sbs_nil) (fun _ _ _ _ _ => xc D__law_case_right hr b13 .nil (sa_cons (sh_val (xv)) (sa_cons (sh_val (xv)) (sa_cons (sh_val (xv)) (sa_nil)))) (sk_nil) (fun vs zs l1 l2 => match vs, zs, l1, l2 with | [_, _, _], [], _, _ => rfl) (fun _ _ _ h => aCons_len (fun _ _ _ h => aCons_len (fun _ _ _ h => aCons_len (fun _ _ _ h => aNil_len h) h) h) h) (fun _ _ _ h => aNil_len h)) (by decide) (by decide)))) (sa_nil)))))) (ss_one (ss_ret (se_bl))) (ss_nil))))))))) (ss_one (ss_ret (se_bl)))
end

end Lk08

namespace Lk08
open PySem PySem.Spec L2 MI
def dd_held_things : He.DefD := ⟨("held_things", none), "held_things", "held_things", defArgs st_held_things, defBody st_held_things, defScope st_held_things, [], []⟩
def dd_cases : He.DefD := ⟨("cases", none), "cases", "cases", defArgs st_cases, defBody st_cases, defScope st_cases, [], []⟩
def dd_join_cases : He.DefD := ⟨("join_cases", none), "join_cases", "join_cases", defArgs st_join_cases, defBody st_join_cases, defScope st_join_cases, [], []⟩
def dd_gone_house : He.DefD := ⟨("gone_house", none), "gone_house", "gone_house", defArgs st_gone_house, defBody st_gone_house, defScope st_gone_house, [], []⟩
def dd_read_things : He.DefD := ⟨("read_things", none), "read_things", "read_things", defArgs st_read_things, defBody st_read_things, defScope st_read_things, [], []⟩
def dd__law_lines : He.DefD := ⟨("_law_lines", none), "_law_lines", "_law_lines", defArgs st__law_lines, defBody st__law_lines, defScope st__law_lines, [], []⟩
def dd__law_there : He.DefD := ⟨("_law_there", none), "_law_there", "_law_there", defArgs st__law_there, defBody st__law_there, defScope st__law_there, [], []⟩
def dd__law_frames : He.DefD := ⟨("_law_frames", none), "_law_frames", "_law_frames", defArgs st__law_frames, defBody st__law_frames, defScope st__law_frames, [], []⟩
def dd_things : He.DefD := ⟨("things", none), "things", "things", defArgs st_things, defBody st_things, defScope st_things, [], [("join", .bl false)]⟩
def dd_beneath : He.DefD := ⟨("beneath", none), "beneath", "beneath", defArgs st_beneath, defBody st_beneath, defScope st_beneath, [], [("join", .bl false)]⟩
def dd__law_case_right : He.DefD := ⟨("_law_case_right", none), "_law_case_right", "_law_case_right", defArgs st__law_case_right, defBody st__law_case_right, defScope st__law_case_right, [], []⟩
def dd_law : He.DefD := ⟨("law", none), "law", "law", defArgs st_law, defBody st_law, defScope st_law, [], []⟩
def fns : List He.DefD := [dd_held_things, dd_cases, dd_join_cases, dd_gone_house, dd_read_things, dd__law_lines, dd__law_there, dd__law_frames, dd_things, dd_beneath, dd__law_case_right, dd_law]
def fas : List He.Fa := [.glo "held_things", .glo "cases", .glo "join_cases", .glo "gone_house", .glo "read_things", .glo "_law_lines", .glo "_law_there", .glo "_law_frames", .glo "things", .glo "beneath", .glo "_law_case_right", .glo "law", .free "all", .free "enumerate", .free "int", .free "len", .free "list", .free "range", .free "sorted", .free "sum", .free "tuple"]
def gcs : List (Str × D) := [("READ_HOUSE", (.tup [(.int (-1))])), ("READ_NAME", (.tup [(.int (-1)), (.int (-1))])), ("STRANGE", (.int (-1)))]
abbrev R : PySem.W.OpenRow := PySem.W.OpenLaw.row PySem.Challenge.rw_strangeseats_k08_frames_all
abbrev hk : PySem.W.Hook := hookM 4 fas fns (gcB gcs)
def ob (s : PySem.W.SharedT) : AlM := obsM 4 fas fns (gcB gcs) (HandSHeadRun.getT s)
theorem ob_eq (s : PySem.W.SharedT) : ob s = hk.obs s.abs := obsM_eq (HandSHeadRun.getT_eq s)
def loose : List Str := ["STRANGE", "READ_HOUSE", "READ_NAME", "held_things", "cases", "join_cases", "gone_house", "read_things", "things", "beneath", "_law_lines", "_law_there", "_law_frames", "_law_case_right"]
theorem run (w : World) : HandSHeadRun.RunEq R (PySem.W.view R.prog [16]) hk ob 4000 loose w := by
  intro os
  kernel_rfl
theorem facts {P : Program} {w : World} {K : PySem.W.Frag} {h : Heap} {mg : Str → Option Value} {f : Addr} (X : K.In h) (G : h.Ns mainGlobals mg) (hfa : mg ("law" : Str) = some (.ref f)) (c : He.SaysD fas fns K) (cg : gcB gcs K = true) :
    ∃ fd : FuncData, (∀ (s : Shared) (v : Value), BindsTo s fd ⟨[v], []⟩ [("_law_script", v)]) ∧ ∀ base : Heap, K.In base → base.Ns mainGlobals mg → FnOk P w K mg base CX0 5 f fd ["_law_script"] (SpD ⟨K, P, w⟩ (fun _ => 0) 1 fn_law) := by
  have C : Mod ⟨K, P, w⟩ mg := ⟨He.free_ok X G (c.fact 12 (f := .free "all") rfl), He.free_ok X G (c.fact 13 (f := .free "enumerate") rfl), He.free_ok X G (c.fact 14 (f := .free "int") rfl), He.free_ok X G (c.fact 15 (f := .free "len") rfl), He.free_ok X G (c.fact 16 (f := .free "list") rfl), He.free_ok X G (c.fact 17 (f := .free "range") rfl), He.free_ok X G (c.fact 18 (f := .free "sorted") rfl), He.free_ok X G (c.fact 19 (f := .free "sum") rfl), He.free_ok X G (c.fact 20 (f := .free "tuple") rfl), gc_ok X G cg 0, gc_ok X G cg 1, gc_ok X G cg 2⟩
  obtain ⟨fd_held_things, F_held_things⟩ := c.def_ 0 (d := dd_held_things) rfl
  obtain ⟨fd_cases, F_cases⟩ := c.def_ 1 (d := dd_cases) rfl
  obtain ⟨fd_join_cases, F_join_cases⟩ := c.def_ 2 (d := dd_join_cases) rfl
  obtain ⟨fd_gone_house, F_gone_house⟩ := c.def_ 3 (d := dd_gone_house) rfl
  obtain ⟨fd_read_things, F_read_things⟩ := c.def_ 4 (d := dd_read_things) rfl
  obtain ⟨fd__law_lines, F__law_lines⟩ := c.def_ 5 (d := dd__law_lines) rfl
  obtain ⟨fd__law_there, F__law_there⟩ := c.def_ 6 (d := dd__law_there) rfl
  obtain ⟨fd__law_frames, F__law_frames⟩ := c.def_ 7 (d := dd__law_frames) rfl
  obtain ⟨fd_things, F_things⟩ := c.def_ 8 (d := dd_things) rfl
  obtain ⟨fd_beneath, F_beneath⟩ := c.def_ 9 (d := dd_beneath) rfl
  obtain ⟨fd__law_case_right, F__law_case_right⟩ := c.def_ 10 (d := dd__law_case_right) rfl
  obtain ⟨fd_law, F_law⟩ := c.def_ 11 (d := dd_law) rfl
  have b0 := kb_plain (ps := ["frame"]) F_held_things 1 [] [.p 0] (fun _ _ _ _ _ _ us ws l1 l2 => match us, ws, l1, l2 with | [_], [], _, _ => rfl)
  have b1 := kb_plain (ps := ["case", "join"]) F_gone_house 2 [] [.p 0, .p 1] (fun _ _ _ _ _ _ us ws l1 l2 => match us, ws, l1, l2 with | [_, _], [], _, _ => rfl)
  have b2 := kb_plain (ps := ["case", "join"]) F_read_things 2 [] [.p 0, .p 1] (fun _ _ _ _ _ _ us ws l1 l2 => match us, ws, l1, l2 with | [_, _], [], _, _ => rfl)
  obtain ⟨mv3, b3⟩ := kb_only (ps := ["frame", "case", "join"]) F_things 2 ["join"] [] [.p 0, .p 1, .k 0] (List.cons_ne_nil _ _) (fun q hq => nomatch hq) (fun _ _ _ _ _ _ us mv ws l1 l2 l3 => match us, mv, ws, l1, l2, l3 with | [_, _], [], [_], _, _, _ => rfl)
  have b4 := kb_plain (ps := ["_law_shape", "_law_word", "_law_spot"]) F__law_there 3 [] [.p 0, .p 1, .p 2] (fun _ _ _ _ _ _ us ws l1 l2 => match us, ws, l1, l2 with | [_, _, _], [], _, _ => rfl)
  obtain ⟨mv5, b5⟩ := kb_only (ps := ["frame", "case", "join"]) F_things 0 ["case", "frame"] [("join", .bl false)] [.k 1, .k 0, .d 0] (List.cons_ne_nil _ _) (fun q hq => hq) (fun _ _ _ _ _ _ us mv ws l1 l2 l3 => match us, mv, ws, l1, l2, l3 with | [], [_], [_, _], _, _, _ => ⟨_, _, _, _, _, _, rfl, rfl, rfl⟩)
  obtain ⟨mv6, b6⟩ := kb_only (ps := ["frame", "case", "thing", "join"]) F_beneath 3 ["join"] [] [.p 0, .p 1, .p 2, .k 0] (List.cons_ne_nil _ _) (fun q hq => nomatch hq) (fun _ _ _ _ _ _ us mv ws l1 l2 l3 => match us, mv, ws, l1, l2, l3 with | [_, _, _], [], [_], _, _, _ => rfl)
  obtain ⟨mv7, b7⟩ := kb_only (ps := ["frame", "case", "thing", "join"]) F_beneath 0 ["join", "thing", "case", "frame"] [] [.k 3, .k 2, .k 1, .k 0] (List.cons_ne_nil _ _) (fun q hq => nomatch hq) (fun _ _ _ _ _ _ us mv ws l1 l2 l3 => match us, mv, ws, l1, l2, l3 with | [], [], [_, _, _, _], _, _, _ => rfl)
  have b8 := kb_plain (ps := []) F__law_frames 0 [] [] (fun _ _ _ _ _ _ us ws l1 l2 => match us, ws, l1, l2 with | [], [], _, _ => rfl)
  have b9 := kb_plain (ps := ["_law_words", "_law_shape"]) F__law_lines 2 [] [.p 0, .p 1] (fun _ _ _ _ _ _ us ws l1 l2 => match us, ws, l1, l2 with | [_, _], [], _, _ => rfl)
  have b10 := kb_plain (ps := ["frame"]) F_cases 1 [] [.p 0] (fun _ _ _ _ _ _ us ws l1 l2 => match us, ws, l1, l2 with | [_], [], _, _ => rfl)
  have b11 := kb_plain (ps := ["frame"]) F_join_cases 0 ["frame"] [.k 0] (fun _ _ _ _ _ _ us ws l1 l2 => match us, ws, l1, l2 with | [], [_], _, _ => rfl)
  have b12 := kb_plain (ps := ["frame"]) F_cases 0 ["frame"] [.k 0] (fun _ _ _ _ _ _ us ws l1 l2 => match us, ws, l1, l2 with | [], [_], _, _ => rfl)
  have b13 := kb_plain (ps := ["_law_shape", "_law_word", "_law_spot"]) F__law_case_right 3 [] [.p 0, .p 1, .p 2] (fun _ _ _ _ _ _ us ws l1 l2 => match us, ws, l1, l2 with | [_, _, _], [], _, _ => rfl)
  have e := hfa.symm.trans (He.glo_ok X G (c.fact 11 (f := .glo "law") rfl))
  cases e
  have b := FunD.bindsA (ps := ["_law_script"]) F_law fun _ _ _ _ _ _ us hl => match us, hl with | [_], _ => rfl
  refine ⟨fd_law, fun s v => b s [v] rfl, fun base _ _ => ?_⟩
  have D_held_things : DefOk P w K mg base (fun _ => 0) 1 "held_things" _ fd_held_things _ fn_held_things := ⟨ok_held_things (cls := fun _ => 0) (base := base) C F_held_things , He.glo_ok X G (c.fact 0 (f := .glo "held_things") rfl), F_held_things.kp⟩
  have D_cases : DefOk P w K mg base (fun _ => 0) 1 "cases" _ fd_cases _ fn_cases := ⟨ok_cases (cls := fun _ => 0) (base := base) C F_cases , He.glo_ok X G (c.fact 1 (f := .glo "cases") rfl), F_cases.kp⟩
  have D_join_cases : DefOk P w K mg base (fun _ => 0) 1 "join_cases" _ fd_join_cases _ fn_join_cases := ⟨ok_join_cases (cls := fun _ => 0) (base := base) C F_join_cases , He.glo_ok X G (c.fact 2 (f := .glo "join_cases") rfl), F_join_cases.kp⟩
  have D_gone_house : DefOk P w K mg base (fun _ => 0) 1 "gone_house" _ fd_gone_house _ fn_gone_house := ⟨ok_gone_house (cls := fun _ => 0) (base := base) C F_gone_house , He.glo_ok X G (c.fact 3 (f := .glo "gone_house") rfl), F_gone_house.kp⟩
  have D_read_things : DefOk P w K mg base (fun _ => 0) 1 "read_things" _ fd_read_things _ fn_read_things := ⟨ok_read_things (cls := fun _ => 0) (base := base) C F_read_things , He.glo_ok X G (c.fact 4 (f := .glo "read_things") rfl), F_read_things.kp⟩
  have D__law_lines : DefOk P w K mg base (fun _ => 0) 1 "_law_lines" _ fd__law_lines _ fn__law_lines := ⟨ok__law_lines (cls := fun _ => 0) (base := base) C F__law_lines , He.glo_ok X G (c.fact 5 (f := .glo "_law_lines") rfl), F__law_lines.kp⟩
  have D__law_there : DefOk P w K mg base (fun _ => 0) 1 "_law_there" _ fd__law_there _ fn__law_there := ⟨ok__law_there (cls := fun _ => 0) (base := base) C F__law_there , He.glo_ok X G (c.fact 6 (f := .glo "_law_there") rfl), F__law_there.kp⟩
  have D__law_frames : DefOk P w K mg base (fun _ => 0) 1 "_law_frames" _ fd__law_frames _ fn__law_frames := ⟨ok__law_frames (cls := fun _ => 0) (base := base) C F__law_frames , He.glo_ok X G (c.fact 7 (f := .glo "_law_frames") rfl), F__law_frames.kp⟩
  have D_things : DefOk P w K mg base (fun _ => 0) 2 "things" _ fd_things _ fn_things := ⟨ok_things (cls := fun _ => 0) (base := base) C F_things D_held_things D_gone_house D_read_things b0 b1 b2, He.glo_ok X G (c.fact 8 (f := .glo "things") rfl), F_things.kp⟩
  have D_beneath : DefOk P w K mg base (fun _ => 0) 3 "beneath" _ fd_beneath _ fn_beneath := ⟨ok_beneath (cls := fun _ => 0) (base := base) C F_beneath D_things D_gone_house b1 b3, He.glo_ok X G (c.fact 9 (f := .glo "beneath") rfl), F_beneath.kp⟩
  have D__law_case_right : DefOk P w K mg base (fun _ => 0) 4 "_law_case_right" _ fd__law_case_right _ fn__law_case_right := ⟨ok__law_case_right (cls := fun _ => 0) (base := base) C F__law_case_right D__law_there D_things D_beneath b3 b4 b5 b6 b7, He.glo_ok X G (c.fact 10 (f := .glo "_law_case_right") rfl), F__law_case_right.kp⟩
  exact ok_law (cls := fun _ => 0) (base := base) C F_law D__law_frames D__law_lines D_cases D_join_cases D__law_case_right b8 b9 b10 b11 b12 b13

end Lk08

namespace Lk08
open PySem PySem.Spec L2 MI
theorem law_run (ns : List Int) (h : ns.length ≤ 63) : ∃ st, fn_law [.scr ns] [] = some (.bl true, st) := ⟨[], by kernel_rfl⟩
end Lk08

namespace Lk08
open PySem PySem.Spec L2 MI

end Lk08

theorem PySem.Challenge.cw_strangeseats_k08_frames_all_holds : PySem.Challenge.rw_strangeseats_k08_frames_all.Holds := by
  w_on; o_law
  refine HandSHeadRun.head_any (r := PySem.W.OpenLaw.row PySem.Challenge.rw_strangeseats_k08_frames_all) (q := PySem.W.view (PySem.W.OpenLaw.row PySem.Challenge.rw_strangeseats_k08_frames_all).prog [16]) (H := Lk08.hk) (ob := Lk08.ob) (M := 4000) (loose := Lk08.loose) (d := HandSHeadRun.topDef (PySem.W.OpenLaw.row PySem.Challenge.rw_strangeseats_k08_frames_all).prog 16) (kwd := []) Lk08.ob_eq
    (by kernel_rfl) (fun s => by kernel_rfl) Lk08.run (by kernel_rfl) (by kernel_rfl) (by kernel_rfl) (by rfl) (by first | assumption | decide +kernel) (by decide +kernel) ⟨rfl, rfl, rfl, rfl, rfl, by decide +kernel⟩ ?hw ?hc
  case hw => w_witness2
  case hc =>
    refine L2.walk_ofE (l := PySem.Challenge.rw_strangeseats_k08_frames_all) (n := 63) (k := 5) (x := "_law_script") (CX := L2.CX0) rfl (by decide) (by kernel_rfl) ⟨rfl, by decide, by decide⟩ ?F (fun _ _ _ _ z => z)
    intro w mg fa h Y G hmg0
    obtain ⟨K, KX, c, cg⟩ := Y
    have hmg : mg ("law" : PySem.Str) = some (.ref fa) := by
      have e : (HandSHeadRun.topDef (PySem.W.OpenLaw.row PySem.Challenge.rw_strangeseats_k08_frames_all).prog 16).name = ("law" : PySem.Str) := by kernel_rfl
      rw [← e]
      exact hmg0
    obtain ⟨fd, hb, hF⟩ := Lk08.facts (P := (PySem.Challenge.rw_strangeseats_k08_frames_all).prog) (w := w) KX G hmg c cg
    exact ⟨K, fd, _, KX, hb, fun H a ns hl _ hS => MI.law_start hS (Lk08.law_run ns hl), hF⟩


