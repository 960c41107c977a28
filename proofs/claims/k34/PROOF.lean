import PyProof.Rows.All
import Wide.All
import OpenK.AllK
import Wide.FinOn
import HandS.ForMost
import HandS.TupAny
import HandS.Zip
import HandS.Walk
import HandS.IsInst
import HandS.NoneIn
import KE.SortKeyed
import HandS.Conv
import KE.KeyNested
import HandS.SetFor
import PySem.Challenge.RW_stretchrows_k34_whole_sets_without_furth
set_option Elab.async false
set_option linter.all false
set_option maxRecDepth 100000
set_option maxHeartbeats 4000000
namespace DL
open PySem PySem.Spec L2
open PyProof.Rows hiding St

abbrev D := PyData
/-- what a slot holds: frozen data; a list, a dict of the frame's own; the pool -/
inductive Sl where
  | fz (d : D) | ol (ds : List D) | od (kvs : List (D × D)) | pl
def Sl.own : Sl → Bool
  | .ol _ => true
  | .od _ => true
  | _ => false
abbrev Rho := List (Option Sl)

/-! ### data in the heap, away from the addresses O -/
def LstAt (K : PySem.W.Frag) (O : Addr → Prop) (H : Hp) (a : Addr) (xs : List V) : Prop := ¬ O a ∧ H a = some (.lst xs)
def TupAt (K : PySem.W.Frag) (O : Addr → Prop) (H : Hp) (a : Addr) (xs : List V) : Prop :=
  (¬ O a ∧ Rd H a (.tup xs)) ∨
    ∃ (o : Obj) (its : Array Value) (n : Nat), K.lookup a = some o ∧ o.cls = .type "tuple" ∧ o.data = .seq its n ∧ its.size ≤ sizeLine ∧ Vals xs its.toList
/-- keys: ints, texts, tuples of such -/
inductive KRep (K : PySem.W.Frag) (O : Addr → Prop) (H : Hp) : V → D → Prop
  | int (i : Int) : KRep K O H (.int i) (.int i)
  | str (x : Str) : KRep K O H (.str x) (.str x)
  | tup {a : Addr} {xs : List V} {ds : List D} : TupAt K O H a xs → xs.length = ds.length → (∀ (i : Nat) v d, xs[i]? = some v → ds[i]? = some d → KRep K O H v d) → KRep K O H (.ref a) (.tuple ds)
def kHash (w : World) : D → Int
  | .int i => hashInt i
  | .str x => hashStr w x
  | .tuple xs => PySem.reduceHash (Builtin.Tuple.tupleHashOf (kHashes w xs))
  | _ => 0
where kHashes (w : World) : List D → List Int
  | [] => []
  | x :: xs => kHash w x :: kHashes w xs
def dEntries (w : World) : List D → List Addr → List Value → List DictEntry
  | k :: ks, a :: as, u :: us => ⟨kHash w k, .ref a, u⟩ :: dEntries w ks as us
  | _, _, _ => []
/-- what is true of a dict object whose keys ks are tuples at as, whose values are vs -/
def dφ (w : World) (a : Addr) (ks : List D) (as : List Addr) (vs : List V) : Heap → Prop := fun h =>
  ∃ us o es ep, Vals vs us ∧ h.get? a = some o ∧ o.ExactDict ∧ o.data = .dict es ep ∧ es.toList = dEntries w ks as us
def isTupD : D → Bool
  | .tuple _ => true
  | _ => false
structure KAll (K : PySem.W.Frag) (O : Addr → Prop) (H : Hp) (as : List Addr) (ks : List D) : Prop where
  len : as.length = ks.length
  nd : ks.Nodup
  dp : ∀ k ∈ ks, k.depth ≤ 8
  all : ∀ (i : Nat) a k, as[i]? = some a → ks[i]? = some k → KRep K O H (.ref a) k
/-- a dict: its keys (tuples), its values -/
def DctIn (w : World) (K : PySem.W.Frag) (O : Addr → Prop) (H : Hp) (a : Addr) (ks : List D) (vs : List V) : Prop :=
  (a == sysModules) = false ∧ ks.length ≤ sizeLine ∧ ks.length = vs.length ∧ ∃ as, KAll K O H as ks ∧ H a = some (.ext (dφ w a ks as vs))
def DctAt (w : World) (K : PySem.W.Frag) (O : Addr → Prop) (H : Hp) (a : Addr) (ks : List D) (vs : List V) : Prop := ¬ O a ∧ DctIn w K O H a ks vs
def keyD : Key → D
  | .inl i => .int i
  | .inr x => .str x

section
variable {K : PySem.W.Frag} {O O' : Addr → Prop} {H H' : Hp} {a : Addr} {xs : List V}
theorem LstAt.sq (h : LstAt K O H a xs) : SqL K H a xs := .inl (.inl h.2)
theorem TupAt.sq (h : TupAt K O H a xs) : SqT K H a xs := h.elim (fun h => .inl h.2) .inr
theorem LstAt.mono (h : LstAt K O H a xs) (m : ∀ b, O' b → O b ∨ H b = none) (k : ∀ b o, ¬ O b → H b = some o → H' b = some o) : LstAt K O' H' a xs :=
  ⟨fun z => (m _ z).elim h.1 fun e => (by rw [h.2] at e; cases e), k _ _ h.1 h.2⟩
theorem TupAt.mono (h : TupAt K O H a xs) (m : ∀ b, O' b → O b ∨ H b = none) (k : ∀ b o, ¬ O b → H b = some o → H' b = some o) : TupAt K O' H' a xs := by
  rcases h with ⟨n, r⟩ | h
  · refine .inl ⟨fun z => (m _ z).elim n fun e => by rcases r with r | ⟨o, r⟩ <;> (rw [r] at e; cases e), ?_⟩
    rcases r with r | ⟨o, r⟩
    · exact .inl (k _ _ n r)
    · exact .inr ⟨o, k _ _ n r⟩
  · exact .inr h
theorem KRep.mono (m : ∀ b, O' b → O b ∨ H b = none) (k : ∀ b o, ¬ O b → H b = some o → H' b = some o) {v : V} {d : D} (h : KRep K O H v d) : KRep K O' H' v d := by
  induction h with
  | int i => exact .int i
  | str x => exact .str x
  | tup h l _ ih => exact .tup (h.mono m k) l ih
theorem KAll.mono {as : List Addr} {ks : List D} (h : KAll K O H as ks) (m : ∀ b, O' b → O b ∨ H b = none) (k : ∀ b o, ¬ O b → H b = some o → H' b = some o) : KAll K O' H' as ks :=
  ⟨h.len, h.nd, h.dp, fun i a d h1 h2 => (h.all i a d h1 h2).mono m k⟩
theorem DctIn.mono {w : World} {ks : List D} {vs : List V} (h : DctIn w K O H a ks vs) (m : ∀ b, O' b → O b ∨ H b = none) (k : ∀ b o, ¬ O b → H b = some o → H' b = some o) (ka : ∀ o, H a = some o → H' a = some o) : DctIn w K O' H' a ks vs := by
  obtain ⟨h1, h2, h3, as, h4, h5⟩ := h
  exact ⟨h1, h2, h3, as, h4.mono m k, ka _ h5⟩
theorem DctAt.mono {w : World} {ks : List D} {vs : List V} (h : DctAt w K O H a ks vs) (m : ∀ b, O' b → O b ∨ H b = none) (k : ∀ b o, ¬ O b → H b = some o → H' b = some o) : DctAt w K O' H' a ks vs :=
  ⟨fun z => (m _ z).elim h.1 fun e => (by obtain ⟨_, _, _, _, _, q⟩ := h.2; rw [q] at e; cases e), h.2.mono m k fun o e => k _ _ h.1 e⟩
end

mutual
inductive Rep (w : World) (K : PySem.W.Frag) (O : Addr → Prop) (H : Hp) : V → D → Prop
  | non : Rep w K O H .non .none
  | bl (b : Bool) : Rep w K O H (.bl b) (.bool b)
  | int (i : Int) : Rep w K O H (.int i) (.int i)
  | str (x : Str) : Rep w K O H (.str x) (.str x)
  | lst {a : Addr} {xs : List V} {ds : List D} : LstAt K O H a xs → RepA w K O H xs ds → ds.length ≤ sizeLine → Rep w K O H (.ref a) (.list ds)
  | tup {a : Addr} {xs : List V} {ds : List D} : TupAt K O H a xs → RepA w K O H xs ds → ds.length ≤ sizeLine → Rep w K O H (.ref a) (.tuple ds)
  | dct {a : Addr} {ks : List D} {vs : List V} {ds : List D} : DctAt w K O H a ks vs → RepA w K O H vs ds → Rep w K O H (.ref a) (.dict (ks.zip ds))
  | dcs {a : Addr} {kvs : List (Key × V)} {ds : List D} : ¬ O a → H a = some (.dK kvs) → RepA w K O H (kvs.map (·.2)) ds → Rep w K O H (.ref a) (.dict ((kvs.map fun p => keyD p.1).zip ds))
inductive RepA (w : World) (K : PySem.W.Frag) (O : Addr → Prop) (H : Hp) : List V → List D → Prop
  | nil : RepA w K O H [] []
  | cons {v : V} {vs : List V} {d : D} {ds : List D} : Rep w K O H v d → RepA w K O H vs ds → RepA w K O H (v :: vs) (d :: ds)
end

section
variable {w : World} {K : PySem.W.Frag} {O O' : Addr → Prop} {H H' : Hp} {a : Addr} {xs : List V}
mutual
theorem Rep.mono (m : ∀ b, O' b → O b ∨ H b = none) (k : ∀ b o, ¬ O b → H b = some o → H' b = some o) : ∀ {v : V} {d : D}, Rep w K O H v d → Rep w K O' H' v d
  | _, _, .non => .non
  | _, _, .bl b => .bl b
  | _, _, .int b => .int b
  | _, _, .str b => .str b
  | _, _, .lst h r z => .lst (h.mono m k) (RepA.mono m k r) z
  | _, _, .tup h r z => .tup (h.mono m k) (RepA.mono m k r) z
  | _, _, .dct h r => .dct (h.mono m k) (RepA.mono m k r)
  | _, _, .dcs h e r => .dcs (fun z => (m _ z).elim h fun q => by rw [e] at q; cases q) (k _ _ h e) (RepA.mono m k r)
theorem RepA.mono (m : ∀ b, O' b → O b ∨ H b = none) (k : ∀ b o, ¬ O b → H b = some o → H' b = some o) : ∀ {vs : List V} {ds : List D}, RepA w K O H vs ds → RepA w K O' H' vs ds
  | _, _, .nil => .nil
  | _, _, .cons r s => .cons (Rep.mono m k r) (RepA.mono m k s)
end
theorem RepA.length : ∀ {vs : List V} {ds : List D}, RepA w K O H vs ds → vs.length = ds.length
  | _, _, .nil => rfl
  | _, _, .cons _ s => by simp [RepA.length s]
theorem RepA.get : ∀ {vs : List V} {ds : List D} {i : Nat} {d : D}, RepA w K O H vs ds → ds[i]? = some d → ∃ v, vs[i]? = some v ∧ Rep w K O H v d
  | _, _, _, _, .nil, e => by simp at e
  | _, _, 0, _, .cons r _, e => by simp at e; subst e; exact ⟨_, rfl, r⟩
  | _, _, i + 1, d, .cons _ s, e => by
    obtain ⟨v, h1, h2⟩ := RepA.get (i := i) s (by simpa using e)
    exact ⟨v, by simpa using h1, h2⟩
theorem RepA.get' : ∀ {vs : List V} {ds : List D} {i : Nat} {v : V}, RepA w K O H vs ds → vs[i]? = some v → ∃ d, ds[i]? = some d ∧ Rep w K O H v d
  | _, _, _, _, .nil, e => by simp at e
  | _, _, 0, _, .cons r _, e => by simp at e; subst e; exact ⟨_, rfl, r⟩
  | _, _, i + 1, d, .cons _ s, e => by
    obtain ⟨v, h1, h2⟩ := RepA.get' (i := i) s (by simpa using e)
    exact ⟨v, by simpa using h1, h2⟩
theorem RepA.append : ∀ {vs ws : List V} {ds es : List D}, RepA w K O H vs ds → RepA w K O H ws es → RepA w K O H (vs ++ ws) (ds ++ es)
  | _, _, _, _, .nil, s => s
  | _, _, _, _, .cons r t, s => .cons r (RepA.append t s)
theorem RepA.take : ∀ {vs : List V} {ds : List D} (n : Nat), RepA w K O H vs ds → RepA w K O H (vs.take n) (ds.take n)
  | _, _, 0, _ => .nil
  | _, _, _ + 1, .nil => .nil
  | _, _, n + 1, .cons r t => .cons r (RepA.take n t)
theorem RepA.drop : ∀ {vs : List V} {ds : List D} (n : Nat), RepA w K O H vs ds → RepA w K O H (vs.drop n) (ds.drop n)
  | _, _, 0, r => r
  | _, _, _ + 1, .nil => .nil
  | _, _, n + 1, .cons _ t => RepA.drop n t
theorem RepA.set {v : V} {d : D} (r : Rep w K O H v d) : ∀ {vs : List V} {ds : List D} (n : Nat), RepA w K O H vs ds → RepA w K O H (vs.set n v) (ds.set n d)
  | _, _, _, .nil => .nil
  | _, _, 0, .cons _ t => .cons r t
  | _, _, n + 1, .cons q t => .cons q (RepA.set r n t)
theorem RepA.reverse : ∀ {vs : List V} {ds : List D}, RepA w K O H vs ds → RepA w K O H vs.reverse ds.reverse
  | _, _, .nil => .nil
  | _, _, .cons r t => by
    rw [List.reverse_cons, List.reverse_cons]
    exact (RepA.reverse t).append (.cons r .nil)
theorem RepA.replicate {vs : List V} {ds : List D} (r : RepA w K O H vs ds) : ∀ n : Nat, RepA w K O H (List.replicate n vs).flatten (List.replicate n ds).flatten
  | 0 => .nil
  | n + 1 => by
    rw [List.replicate_succ, List.replicate_succ, List.flatten_cons, List.flatten_cons]
    exact r.append (RepA.replicate r n)
theorem RepA.nil_iff {vs : List V} {ds : List D} (r : RepA w K O H vs ds) : vs = [] ↔ ds = [] := by
  cases r <;> simp
end
end DL

namespace DL
open PySem PySem.Spec L2
open PyProof.Rows hiding St

/-! ### the pool, extensions -/
/-- where the pool stands, and the copy of the script that it holds -/
abbrev PAd := Option (Addr × Addr)
def isP (pa : PAd) (b : Addr) : Prop := ∃ c, pa = some (b, c)
def PoolAt (H : Hp) (a c : Addr) : Prop := ∃ i j k s : Int, H a = some (.lst [.ref c, .int i, .int j, .int k, .int s]) ∧ 0 ≤ i
def Ext (pa : PAd) (H H' : Hp) : Prop := (∀ b o, ¬ isP pa b → H b = some o → H' b = some o) ∧ ∀ a c, pa = some (a, c) → PoolAt H a c → PoolAt H' a c
theorem Ext.refl (pa : PAd) (H : Hp) : Ext pa H H := ⟨fun _ _ _ h => h, fun _ _ _ h => h⟩
theorem Ext.trans {pa : PAd} {H H1 H2 : Hp} (a : Ext pa H H1) (b : Ext pa H1 H2) : Ext pa H H2 :=
  ⟨fun c o n e => b.1 c o n (a.1 c o n e), fun c d e p => b.2 c d e (a.2 c d e p)⟩
theorem PoolAt.some {H : Hp} {a c : Addr} (p : PoolAt H a c) : ∃ o, H a = some o := let ⟨_, _, _, _, e, _⟩ := p; ⟨_, e⟩
theorem Ext.of {pa : PAd} {H H' : Hp} (e : Same H H') : Ext pa H H' :=
  ⟨fun b o _ h => e b o h, fun a c _ ⟨i, j, k, s, h, z⟩ => ⟨i, j, k, s, e _ _ h, z⟩⟩
theorem same_new {H : Hp} {p : Addr} {o : HO} (h : H p = none) : Same H (upd H p o) := fun b x e => by
  rw [upd_ne (ne_of_none e h)]; exact e
theorem Ext.new {pa : PAd} {H : Hp} {p : Addr} {o : HO} (h : H p = none) : Ext pa H (upd H p o) := .of (same_new h)

/-! ### what is owned -/
def owns (ρ : Rho) (σ : St) (b : Addr) : Prop := ∃ (i : Nat) (s : Sl), ρ[i]? = some (some s) ∧ s.own = true ∧ σ[i]? = some (some (.ref b))
def Ow (O : Addr → Prop) (pa : PAd) (ρ : Rho) (σ : St) (b : Addr) : Prop := O b ∨ isP pa b ∨ owns ρ σ b

def SlOk (w : World) (K : PySem.W.Frag) (pa : PAd) (W : Addr → Prop) (H : Hp) (v : V) : Sl → Prop
  | .fz d => Rep w K W H v d
  | .ol ds => ∃ a xs, v = .ref a ∧ H a = some (.lst xs) ∧ RepA w K W H xs ds ∧ ds.length ≤ sizeLine ∧ ¬ isP pa a
  | .od kvs => ∃ a ks vs ds, v = .ref a ∧ DctIn w K W H a ks vs ∧ RepA w K W H vs ds ∧ kvs = ks.zip ds ∧ ¬ isP pa a
  | .pl => ∃ a c, v = .ref a ∧ pa = some (a, c)

structure ER (w : World) (K : PySem.W.Frag) (O : Addr → Prop) (pa : PAd) (ρ : Rho) (σ : St) (H : Hp) : Prop where
  len : ρ.length = σ.length
  dom : ∀ b, O b → H b ≠ none
  pool : ∀ a c, pa = some (a, c) → PoolAt H a c ∧ ∃ ns : List Int, LstAt K (Ow O pa ρ σ) H c (ns.map V.int)
  slot : ∀ (i : Nat) s, ρ[i]? = some (some s) → ∃ v, σ[i]? = some (some v) ∧ SlOk w K pa (Ow O pa ρ σ) H v s

section
variable {w : World} {K : PySem.W.Frag} {O W : Addr → Prop} {pa : PAd} {ρ : Rho} {σ : St} {H H' H1 : Hp}
theorem wkeep (hW : ∀ b, isP pa b → W b) (e : Ext pa H H') : ∀ b o, ¬ W b → H b = some o → H' b = some o := fun b o n h => e.1 b o (fun z => n (hW b z)) h
theorem ow_pa : ∀ b, isP pa b → Ow O pa ρ σ b := fun _ h => .inr (.inl h)
theorem Rep.ext {v : V} {d : D} (hW : ∀ b, isP pa b → W b) (e : Ext pa H H') (r : Rep w K W H v d) : Rep w K W H' v d := r.mono (fun _ h => .inl h) (wkeep hW e)
theorem RepA.ext {v : List V} {d : List D} (hW : ∀ b, isP pa b → W b) (e : Ext pa H H') (r : RepA w K W H v d) : RepA w K W H' v d := r.mono (fun _ h => .inl h) (wkeep hW e)
theorem SlOk.ext {v : V} {s : Sl} (hW : ∀ b, isP pa b → W b) (e : Ext pa H H') (r : SlOk w K pa W H v s) : SlOk w K pa W H' v s := by
  cases s with
  | fz d => exact Rep.ext hW e r
  | ol ds =>
    obtain ⟨a, xs, h1, h2, h3, h4, h5⟩ := r
    exact ⟨a, xs, h1, e.1 _ _ h5 h2, h3.ext hW e, h4, h5⟩
  | od kvs =>
    obtain ⟨a, ks, vs, ds, h1, h2, h3, h4, h5⟩ := r
    exact ⟨a, ks, vs, ds, h1, h2.mono (fun _ h => .inl h) (wkeep hW e) (fun o q => e.1 _ _ h5 q), h3.ext hW e, h4, h5⟩
  | pl => exact r
theorem ER.ext (r : ER w K O pa ρ σ H) (e : Ext pa H H') : ER w K O pa ρ σ H' where
  len := r.len
  dom := fun b h => by
    by_cases hp : isP pa b
    · obtain ⟨c, hc⟩ := hp
      obtain ⟨o, ho⟩ := (e.2 b c hc (r.pool b c hc).1).some
      rw [ho]; simp
    · cases q : H b with
      | none => exact absurd q (r.dom b h)
      | some o => rw [e.1 b o hp q]; simp
  pool := fun a c h => by
    obtain ⟨h1, ns, h2⟩ := r.pool a c h
    exact ⟨e.2 a c h h1, ns, h2.mono (fun _ h => .inl h) (wkeep ow_pa e)⟩
  slot := fun i s h => by
    obtain ⟨v, h1, h2⟩ := r.slot i s h
    exact ⟨v, h1, h2.ext ow_pa e⟩
theorem ER.domW (r : ER w K O pa ρ σ H) : ∀ b, Ow O pa ρ σ b → H b ≠ none := by
  rintro b (h | ⟨c, h⟩ | ⟨i, s, h1, h2, h3⟩)
  · exact r.dom b h
  · obtain ⟨o, ho⟩ := (r.pool b c h).1.some
    rw [ho]; simp
  · obtain ⟨v, e, q⟩ := r.slot i s h1
    rw [h3] at e
    cases e
    cases s with
    | fz d => cases h2
    | pl => cases h2
    | ol ds =>
      obtain ⟨a, xs, e1, e2, _⟩ := q
      cases e1
      rw [e2]; simp
    | od kvs =>
      obtain ⟨a, ks, vs, ds, e1, ⟨_, _, _, as, _, e2⟩, _⟩ := q
      cases e1
      rw [e2]; simp
end

/-! ### values that are read at once -/
def BRep (w : World) (K : PySem.W.Frag) (pa : PAd) (W : Addr → Prop) (H : Hp) (v : V) (d : D) : Prop :=
  Rep w K W H v d ∨ (∃ a xs ds, v = .ref a ∧ d = .list ds ∧ ¬ isP pa a ∧ H a = some (.lst xs) ∧ RepA w K W H xs ds ∧ ds.length ≤ sizeLine) ∨
    (∃ a ks vs ds, v = .ref a ∧ d = .dict (ks.zip ds) ∧ ¬ isP pa a ∧ DctIn w K W H a ks vs ∧ RepA w K W H vs ds)
section
variable {w : World} {K : PySem.W.Frag} {O W : Addr → Prop} {pa : PAd} {ρ : Rho} {σ : St} {H H' H1 : Hp} {v : V} {d : D}
theorem BRep.ext (hW : ∀ b, isP pa b → W b) (e : Ext pa H H') (r : BRep w K pa W H v d) : BRep w K pa W H' v d := by
  rcases r with r | ⟨a, xs, ds, h1, h2, h3, h4, h5, h6⟩ | ⟨a, ks, vs, ds, h1, h2, h3, h4, h5⟩
  · exact .inl (r.ext hW e)
  · exact .inr (.inl ⟨a, xs, ds, h1, h2, h3, e.1 _ _ h3 h4, h5.ext hW e, h6⟩)
  · exact .inr (.inr ⟨a, ks, vs, ds, h1, h2, h3, h4.mono (fun _ h => .inl h) (wkeep hW e) (fun o q => e.1 _ _ h3 q), h5.ext hW e⟩)
theorem BRep.list {ds : List D} (r : BRep w K pa W H v (.list ds)) : ∃ a xs, v = .ref a ∧ SqL K H a xs ∧ RepA w K W H xs ds ∧ ds.length ≤ sizeLine := by
  rcases r with r | ⟨a, xs, ds', h1, h2, h3, h4, h5, h6⟩ | ⟨a, ks, vs, ds, h1, h2, _⟩
  · cases r with
    | lst h1 h2 h3 => exact ⟨_, _, rfl, h1.sq, h2, h3⟩
  · cases h2; exact ⟨a, xs, h1, .inl (.inl h4), h5, h6⟩
  · cases h2
theorem BRep.tuple {ds : List D} (r : BRep w K pa W H v (.tuple ds)) : ∃ a xs, v = .ref a ∧ SqT K H a xs ∧ RepA w K W H xs ds ∧ ds.length ≤ sizeLine := by
  rcases r with r | ⟨a, xs, ds', h1, h2, h3, h4, h5, h6⟩ | ⟨a, ks, vs, ds, h1, h2, _⟩
  · cases r with
    | tup h1 h2 h3 => exact ⟨_, _, rfl, h1.sq, h2, h3⟩
  · cases h2
  · cases h2
theorem BRep.int {i : Int} (r : BRep w K pa W H v (.int i)) : v = .int i := by
  rcases r with r | ⟨a, xs, ds', h1, h2, h3, h4, h5, h6⟩ | ⟨a, ks, vs, ds, h1, h2, _⟩
  · cases r; rfl
  · cases h2
  · cases h2
theorem BRep.bool {i : Bool} (r : BRep w K pa W H v (.bool i)) : v = .bl i := by
  rcases r with r | ⟨a, xs, ds', h1, h2, h3, h4, h5, h6⟩ | ⟨a, ks, vs, ds, h1, h2, _⟩
  · cases r; rfl
  · cases h2
  · cases h2
theorem BRep.str {i : Str} (r : BRep w K pa W H v (.str i)) : v = .str i := by
  rcases r with r | ⟨a, xs, ds', h1, h2, h3, h4, h5, h6⟩ | ⟨a, ks, vs, ds, h1, h2, _⟩
  · cases r; rfl
  · cases h2
  · cases h2
theorem BRep.none (r : BRep w K pa W H v .none) : v = .non := by
  rcases r with r | ⟨a, xs, ds', h1, h2, h3, h4, h5, h6⟩ | ⟨a, ks, vs, ds, h1, h2, _⟩
  · cases r; rfl
  · cases h2
  · cases h2
theorem Rep.br (r : Rep w K W H v d) : BRep w K pa W H v d := .inl r
end

/-! ### readings over data -/
abbrev Wx := Rho → (D → Prop) → Prop
abbrev Wt := Rho → (Bool → Prop) → Prop
abbrev Wa := Rho → (List D → Prop) → Prop
abbrev Wg := D → Rho → (Rho → Prop) → Prop
structure WE where
  nx : Rho → Prop
  rt : D → Prop
  bk : Rho → Prop := fun _ => False
  ct : Rho → Prop := fun _ => False
abbrev Ws := WE → Rho → Prop

def tD (w : World) (K : PySem.W.Frag) (t : Wx) : TE := fun σ H Q => ∃ O pa ρ Q', ER w K O pa ρ σ H ∧ t ρ Q' ∧ ∀ d, Q' d → ∀ v H', Ext pa H H' → Rep w K (Ow O pa ρ σ) H' v d → Q v H'
def tB (w : World) (K : PySem.W.Frag) (t : Wx) : TE := fun σ H Q => ∃ O pa ρ Q', ER w K O pa ρ σ H ∧ t ρ Q' ∧ ∀ d, Q' d → ∀ v H', Ext pa H H' → BRep w K pa (Ow O pa ρ σ) H' v d → Q v H'
def tT (w : World) (K : PySem.W.Frag) (t : Wt) : TT := fun σ H Q => ∃ O pa ρ Q', ER w K O pa ρ σ H ∧ t ρ Q' ∧ ∀ b, Q' b → ∀ H', Ext pa H H' → Q b H'
def tAr (w : World) (K : PySem.W.Frag) (t : Wa) : TA := fun σ H Q => ∃ O pa ρ Q', ER w K O pa ρ σ H ∧ t ρ Q' ∧ ∀ ds, Q' ds → ∀ vs H', Ext pa H H' → RepA w K (Ow O pa ρ σ) H' vs ds → Q vs H'
/-- what an iterator that was made at H1 leans on stands at H2 -/
def Kept (W : Addr → Prop) (H1 H2 : Hp) : Prop := ∀ b o, ¬ W b → H1 b = some o → H2 b = some o
/-- an iterator that walks the data ds, whatever becomes of what is owned -/
structure WalkD (w : World) (K : PySem.W.Frag) (W : Addr → Prop) (J : It) (ds : List D) (H1 : Hp) : Prop where
  len : ds.length ≤ sizeLine
  go : ∀ H2, Kept W H1 H2 → ∀ i, i < ds.length → J.go i H2
  stop : ∀ H2, Kept W H1 H2 → J.stop ds.length H2
  yld : ∀ H2 W', Kept W H1 H2 → (∀ b, W' b → W b ∨ H1 b = none) → (∀ b, W' b → H2 b ≠ none) → ∀ i x H3, i < ds.length → J.yld i H2 x H3 → Same H2 H3 ∧ ∃ d, ds[i]? = some d ∧ Rep w K W' H3 x d
def tI (w : World) (K : PySem.W.Frag) (t : Wa) : TI := fun σ H R => ∃ O pa ρ Q', ER w K O pa ρ σ H ∧ t ρ Q' ∧ ∀ ds, Q' ds → ∀ J H', Ext pa H H' → WalkD w K (Ow O pa ρ σ) J ds H' → R J H'
inductive Sets (w : World) (K : PySem.W.Frag) (O : Addr → Prop) (pa : PAd) (H : Hp) (is : List Nat) : Rho → St → Rho → St → Prop
  | refl {ρ σ} : Sets w K O pa H is ρ σ ρ σ
  | step {ρ σ ρ' σ' i d v} : Sets w K O pa H is ρ σ ρ' σ' → i ∈ is → Rep w K (Ow O pa ρ' σ') H v d → Sets w K O pa H is ρ σ (ρ'.set i (some (.fz d))) (σ'.set i (some v))
def tG (w : World) (K : PySem.W.Frag) (is : List Nat) (g : Wg) : TG := fun v σ H Q => ∃ O pa ρ d Q', ER w K O pa ρ σ H ∧ Rep w K (Ow O pa ρ σ) H v d ∧ g d ρ Q' ∧ ∀ ρ' σ', Q' ρ' → Sets w K O pa H is ρ σ ρ' σ' → Q σ' H

/-- a statement's state: Fz is what must stand as it is -/
structure SR (w : World) (K : PySem.W.Frag) (O : Addr → Prop) (pa : PAd) (Fz : Hp) (ρ : Rho) (σ : St) (H : Hp) : Prop extends ER w K O pa ρ σ H where
  keep : ∀ b o, Fz b = some o → H b = some o
  fresh : ∀ b, owns ρ σ b → Fz b = Option.none
  sep : ∀ (i j : Nat) s t b, ρ[i]? = some (some s) → s.own = true → σ[i]? = some (some (.ref b)) → ρ[j]? = some (some t) → t.own = true → σ[j]? = some (some (.ref b)) → i = j
  fpa : ∀ b, isP pa b → Fz b = Option.none
  fO : ∀ b, O b → Fz b ≠ Option.none
def tS (w : World) (K : PySem.W.Frag) (t : Ws) : TS := fun Dd σ H => ∃ O pa Fz ρ E, SR w K O pa Fz ρ σ H ∧ t E ρ ∧ (∀ ρ', E.nx ρ' → ∀ σ' H', SR w K O pa Fz ρ' σ' H' → Dd.nx σ' H') ∧
  (∀ d, E.rt d → ∀ v H', (∀ b o, Fz b = some o → H' b = some o) → (∀ a c, pa = some (a, c) → PoolAt H' a c) → Rep w K (fun b => O b ∨ isP pa b) H' v d → Dd.rt v H') ∧
  (∀ ρ', E.bk ρ' → ∀ σ' H', SR w K O pa Fz ρ' σ' H' → Dd.bk σ' H') ∧ (∀ ρ', E.ct ρ' → ∀ σ' H', SR w K O pa Fz ρ' σ' H' → Dd.ct σ' H')

abbrev QE (X : Cx) (e : Expr) (t : Wx) : Prop := PE X e (tD X.w X.K t)
abbrev QB (X : Cx) (e : Expr) (t : Wx) : Prop := PE X e (tB X.w X.K t)
abbrev QT (X : Cx) (e : Expr) (t : Wt) : Prop := PT X e (tT X.w X.K t)
abbrev QW (X : Cx) (e : Expr) (t : Wt) : Prop := PW X e (tT X.w X.K t)
abbrev QA (X : Cx) (es : List Expr) (t : Wa) : Prop := PA X es (tAr X.w X.K t)
abbrev QI (X : Cx) (tg e : Expr) (t : Wa) : Prop := PI X tg e (tI X.w X.K t)
abbrev QG (X : Cx) (e : Expr) (is : List Nat) (g : Wg) : Prop := PG X e (tG X.w X.K is g)
abbrev QS (X : Cx) (st : Stmt) (t : Ws) : Prop := PS X st (tS X.w X.K t)
abbrev QSs (X : Cx) (st : List Stmt) (t : Ws) : Prop := PSs X st (tS X.w X.K t)

theorem PE.imp {X : Cx} {e : Expr} {t t' : TE} (h : PE X e t) (i : ∀ σ H Q, t' σ H Q → t σ H Q) : PE X e t' := ⟨fun pins s σ H Q I q => h.run pins s σ H Q I (i σ H Q q)⟩
theorem PT.imp {X : Cx} {e : Expr} {t t' : TT} (h : PT X e t) (i : ∀ σ H Q, t' σ H Q → t σ H Q) : PT X e t' := ⟨fun pins s σ H Q I q => h.run pins s σ H Q I (i σ H Q q)⟩
theorem PW.imp {X : Cx} {e : Expr} {t t' : TT} (h : PW X e t) (i : ∀ σ H Q, t' σ H Q → t σ H Q) : PW X e t' := ⟨fun wh pins s σ H Q I q => h.run wh pins s σ H Q I (i σ H Q q)⟩
theorem PA.imp {X : Cx} {e : List Expr} {t t' : TA} (h : PA X e t) (i : ∀ σ H Q, t' σ H Q → t σ H Q) : PA X e t' := ⟨fun pos pins s σ H Q I q => h.run pos pins s σ H Q I (i σ H Q q)⟩
theorem PI.imp {X : Cx} {tg e : Expr} {t t' : TI} (h : PI X tg e t) (i : ∀ σ H Q, t' σ H Q → t σ H Q) : PI X tg e t' := ⟨fun pins s σ H Q I q => h.run pins s σ H Q I (i σ H Q q)⟩
theorem PS.imp {X : Cx} {e : Stmt} {t t' : TS} (h : PS X e t) (i : ∀ D σ H, t' D σ H → t D σ H) : PS X e t' := ⟨fun pins s σ H D I q => h.run pins s σ H D I (i D σ H q)⟩
theorem PSs.imp {X : Cx} {e : List Stmt} {t t' : TS} (h : PSs X e t) (i : ∀ D σ H, t' D σ H → t D σ H) : PSs X e t' := ⟨fun pins s σ H D I q => h.run pins s σ H D I (i D σ H q)⟩
theorem PG.imp {X : Cx} {e : Expr} {t t' : TG} (h : PG X e t) (i : ∀ v σ H Q, t' v σ H Q → t v σ H Q) : PG X e t' := ⟨fun pins s σ H v u Q I r q => h.run pins s σ H v u Q I r (i v σ H Q q)⟩

section
variable {X : Cx} {e a b c : Expr} {pos : Pos} {t ta tb tc : Wx}
theorem QE.qb (h : QE X e t) : QB X e t := PE.imp h fun σ H Q ⟨O, pa, ρ, Q', r, q, k⟩ => ⟨O, pa, ρ, Q', r, q, fun d hd v H' x rp => k d hd v H' x (.inl rp)⟩

/-! ### names, constants -/
@[simp] def wVar (i : Nat) : Wx := fun ρ Q => match ρ[i]? with
  | some (some (.fz d)) => Q d
  | _ => False
@[simp] def wVarB (i : Nat) : Wx := fun ρ Q => match ρ[i]? with
  | some (some (.fz d)) => Q d
  | some (some (.ol ds)) => Q (.list ds)
  | some (some (.od kvs)) => Q (.dict kvs)
  | _ => False
@[simp] def wC (d : D) : Wx := fun _ Q => Q d
theorem q_var (i : Nat) {x : Str} (hN : X.N[i]? = some x := by rfl) (hv : Vis X.env.scope x := by first | exact Or.inl rfl | exact Or.inr (Or.inl rfl) | exact Or.inr (Or.inr rfl)) (hd : (x == ("__debug__" : Str)) = false := by decide)
    (hcd : (x == ("__classdict__" : Str)) = false := by decide) : QE X (.Name x pos) (wVar i) := by
  refine PE.imp (pe_var hN hv hd hcd) fun σ H Q ⟨O, pa, ρ, Q', r, q, k⟩ => ?_
  unfold wVar at q
  split at q
  · rename_i d e
    obtain ⟨v, h1, h2⟩ := r.slot i _ e
    exact ⟨v, h1, k d q v H (Ext.refl _ _) h2⟩
  · exact q.elim
theorem qb_var (i : Nat) {x : Str} (hN : X.N[i]? = some x := by rfl) (hv : Vis X.env.scope x := by first | exact Or.inl rfl | exact Or.inr (Or.inl rfl) | exact Or.inr (Or.inr rfl)) (hd : (x == ("__debug__" : Str)) = false := by decide)
    (hcd : (x == ("__classdict__" : Str)) = false := by decide) : QB X (.Name x pos) (wVarB i) := by
  refine PE.imp (pe_var hN hv hd hcd) fun σ H Q ⟨O, pa, ρ, Q', r, q, k⟩ => ?_
  unfold wVarB at q
  split at q
  · rename_i d e
    obtain ⟨v, h1, h2⟩ := r.slot i _ e
    exact ⟨v, h1, k d q v H (Ext.refl _ _) (.inl h2)⟩
  · rename_i d e
    obtain ⟨v, h1, a, xs, rfl, h3, h4, h5, h6⟩ := r.slot i _ e
    exact ⟨_, h1, k _ q _ H (Ext.refl _ _) (.inr (.inl ⟨a, xs, _, rfl, rfl, h6, h3, h4, h5⟩))⟩
  · rename_i d e
    obtain ⟨v, h1, a, ks, vs, ds, rfl, h3, h4, rfl, h6⟩ := r.slot i _ e
    exact ⟨_, h1, k _ q _ H (Ext.refl _ _) (.inr (.inr ⟨a, ks, vs, ds, rfl, rfl, h6, h3, h4⟩))⟩
  · exact q.elim
theorem q_const {v : V} {d : D} (h : PE X e (tC v)) (r : ∀ w K W H, Rep w K W H v d) : QE X e (wC d) :=
  PE.imp h fun σ H Q ⟨O, pa, ρ, Q', _, q, k⟩ => k d q v H (Ext.refl _ _) (r _ _ _ _)
theorem q_int {i : Int} {j} : QE X (.Constant (.int i) j pos) (wC (.int i)) := q_const pe_int fun _ _ _ _ => .int i
theorem q_bl {i : Bool} {j} : QE X (.Constant (.bool i) j pos) (wC (.bool i)) := q_const pe_bl fun _ _ _ _ => .bl i
theorem q_non {j} : QE X (.Constant .none j pos) (wC .none) := q_const pe_non fun _ _ _ _ => .non
theorem q_str {x : Str} {j} : QE X (.Constant (.str x) j pos) (wC (.str x)) := q_const pe_str fun _ _ _ _ => .str x

/-! ### operators by values -/
abbrev G2 := D → D → (D → Prop) → Prop
def OpD (X : Cx) (f : Value → Value → Sem Value) (g : G2) : Prop :=
  ∀ (pins : List (Addr × Obj)) (s : Shared) (σ : St) (H : Hp) (x y : V) (v u : Value) (W : Addr → Prop) (pa : PAd) (d e : D) (Q' : D → Prop), Inv X pins σ H s → RelV x v → RelV y u →
    (∀ b, W b → H b ≠ none) → (∀ b, isP pa b → W b) → BRep X.w X.K pa W H x d → BRep X.w X.K pa W H y e → g d e Q' →
    wpAny (model X.prog X.w) X.A (f v u) (EP X pins σ fun z H' => ∃ d', Q' d' ∧ Ext pa H H' ∧ Rep X.w X.K W H' z d') X.xe s
/-- by a rule of the layer -/
theorem OpD.of {f : Value → Value → Sem Value} {r : R2} {g : G2} (ho : OpR X f r)
    (h : ∀ (pins : List (Addr × Obj)) (s : Shared) (σ : St) (H : Hp) (x y : V) (W : Addr → Prop) (pa : PAd) (d e : D) (Q' : D → Prop), Inv X pins σ H s → (∀ b, W b → H b ≠ none) → (∀ b, isP pa b → W b) → BRep X.w X.K pa W H x d → BRep X.w X.K pa W H y e → g d e Q' →
      r x y H fun z H' => ∃ d', Q' d' ∧ Ext pa H H' ∧ Rep X.w X.K W H' z d') : OpD X f g :=
  fun pins s σ H x y v u W pa d e Q' I rx ry hW hP hx hy hg => ho pins s σ H x y v u _ I rx ry (h pins s σ H x y W pa d e Q' I hW hP hx hy hg)
@[simp] def w2 (g : G2) (ta tb : Wx) : Wx := fun ρ Q => ta ρ fun x => tb ρ fun y => g x y Q
theorem run2 {f : Value → Value → Sem Value} {g : G2} (ho : OpD X f g) (ha : QB X a ta) (hb : QB X b tb) {pins : List (Addr × Obj)} {s : Shared} {σ : St} {H : Hp} {Q : VK} (I : Inv X pins σ H s) (h : tD X.w X.K (w2 g ta tb) σ H Q) :
    wpAny (model X.prog X.w) X.A (eval a X.env) (fun v s₁ => wpAny (model X.prog X.w) X.A (eval b X.env) (fun u s₂ => wpAny (model X.prog X.w) X.A (f v u) (EP X pins σ Q) X.xe s₂) X.xe s₁) X.xe s := by
  obtain ⟨O, pa, ρ, Q', r, q, k⟩ := h
  refine thn (ha.run pins s σ H (fun x H1 => ∃ d, tb ρ (fun y => g d y Q') ∧ Ext pa H H1 ∧ BRep X.w X.K pa (Ow O pa ρ σ) H1 x d) I ⟨O, pa, ρ, _, r, q, fun d hd v H' x rp => ⟨d, hd, x, rp⟩⟩) fun v s1 ⟨x, H1, I1, r1, d, q1, e1, b1⟩ => ?_
  refine thn (hb.run pins s1 σ H1 (fun y H2 => ∃ e, g d e Q' ∧ Ext pa H1 H2 ∧ BRep X.w X.K pa (Ow O pa ρ σ) H2 y e) I1 ⟨O, pa, ρ, _, r.ext e1, q1, fun d hd v H' x rp => ⟨d, hd, x, rp⟩⟩) fun u s2 ⟨y, H2, I2, r2, e, q2, e2, b2⟩ => ?_
  refine thn (ho pins s2 σ H2 x y v u _ pa d e Q' I2 r1 r2 ((r.ext e1).ext e2).domW ow_pa (b1.ext ow_pa e2) b2 q2) fun z s3 ⟨zv, H3, I3, r3, d', q3, e3, b3⟩ => ?_
  exact ⟨zv, H3, I3, r3, k d' q3 zv H3 (e1.trans (e2.trans e3)) b3⟩
theorem q_op {op : Operator} {g : G2} (ho : OpD X (binaryOp op) g) (ha : QB X a ta) (hb : QB X b tb) : QE X (.BinOp a op b pos) (w2 g ta tb) :=
  ⟨fun pins s σ H Q I h => wpAny_BinOp (run2 ho ha hb I h)⟩
theorem q_cmp {op : CmpOp} {g : G2} (ho : OpD X (compareOp op) g) (ha : QB X a ta) (hb : QB X b tb) (hm : behindInMarks op b = false := by first | exact nobehind _ (by decide) (by decide) | rfl) : QE X (.Compare a [op] [b] pos) (w2 g ta tb) :=
  ⟨fun pins s σ H Q I h => wpAny_Compare1 (run2 ho ha hb I h) hm⟩
/-- a value that is a truth value, as a test -/
@[simp] def onB (Q : Bool → Prop) : D → Prop
  | .bool b => Q b
  | _ => False
@[simp] def wT (t : Wx) : Wt := fun ρ Q => t ρ (onB Q)
theorem boolOf {w : World} {K : PySem.W.Frag} {W : Addr → Prop} {H : Hp} {v : V} {d : D} {Q : Bool → Prop} (r : Rep w K W H v d) (q : onB Q d) : ∃ b, d = .bool b ∧ v = .bl b ∧ Q b := by
  cases r <;> first | exact q.elim | exact ⟨_, rfl, rfl, q⟩
theorem qt_val (h : QE X e t) (he : ∀ whole, isTrue e X.env whole = (do let v ← whole; standAt e.pos; holding [v] (truthy v)) := by intro _; rfl) : QT X e (wT t) := by
  refine PT.imp (pt_val h he) fun σ H Q ⟨O, pa, ρ, Q', r, q, k⟩ => ?_
  refine ⟨O, pa, ρ, _, r, q, fun d hd v H' x rp => ?_⟩
  obtain ⟨c, rfl, rfl, z⟩ := boolOf rp hd
  exact ⟨c, rfl, k c z H' x⟩
theorem qt_cmp {op : CmpOp} {g : G2} (ho : OpD X (compareOp op) g) (ha : QB X a ta) (hb : QB X b tb) (hm : behindInMarks op b = false := by first | exact nobehind _ (by decide) (by decide) | rfl) : QT X (.Compare a [op] [b] pos) (wT (w2 g ta tb)) := by
  refine ⟨fun pins s σ H Q I ⟨O, pa, ρ, Q', r, q, k⟩ => ?_⟩
  refine wpAny_isTrue_Compare1 (thn (run2 (Q := fun x H1 => ∃ c, x = .bl c ∧ Q c H1) ho ha hb I ⟨O, pa, ρ, _, r, q, fun d hd v H' x rp => ?_⟩) fun v s1 h1 => thn h1 fun u s2 h2 => thn h2 fun c s3 ⟨x, H1, I1, r1, q1⟩ => ?_) hm
  · obtain ⟨c, rfl, rfl, z⟩ := boolOf rp hd
    exact ⟨c, rfl, k c z H' x⟩
  · obtain ⟨d, rfl, q⟩ := q1
    cases r1
    exact wpAny_truthy_bool ⟨H1, I1, q⟩
end
end DL

namespace DL
open PySem PySem.Spec L2
open PyProof.Rows hiding St

section
variable {w : World} {K : PySem.W.Frag} {O O' W W' : Addr → Prop} {pa : PAd} {ρ ρ' : Rho} {σ σ' : St} {H H' H1 : Hp} {v : V} {d : D} {is : List Nat}
theorem SlOk.mono {s : Sl} (m : ∀ b, W' b → W b ∨ H b = none) (k : ∀ b o, ¬ W b → H b = some o → H' b = some o) (ko : s.own = true → ∀ b o, v = .ref b → H b = some o → ¬ isP pa b → H' b = some o) (r : SlOk w K pa W H v s) : SlOk w K pa W' H' v s := by
  cases s with
  | fz d => exact Rep.mono m k r
  | ol ds =>
    obtain ⟨a, xs, h1, h2, h3, h4, h5⟩ := r
    exact ⟨a, xs, h1, ko rfl _ _ h1 h2 h5, h3.mono m k, h4, h5⟩
  | od kvs =>
    obtain ⟨a, ks, vs, ds, h1, h2, h3, h4, h5⟩ := r
    exact ⟨a, ks, vs, ds, h1, h2.mono m k (fun o q => ko rfl _ _ h1 q h5), h3.mono m k, h4, h5⟩
  | pl => exact r
theorem owns_set {i : Nat} {b : Addr} (h : owns (ρ.set i (some (.fz d))) (σ.set i (some v)) b) : owns ρ σ b := by
  obtain ⟨j, s, h1, h2, h3⟩ := h
  by_cases e : i = j
  · subst e
    by_cases hi : i < ρ.length
    · rw [List.getElem?_set_self hi] at h1
      cases h1
      cases h2
    · rw [List.getElem?_eq_none (by simpa using hi)] at h1
      cases h1
  · rw [List.getElem?_set_ne e] at h1 h3
    exact ⟨j, s, h1, h2, h3⟩
theorem ow_set {i : Nat} {b : Addr} (h : Ow O pa (ρ.set i (some (.fz d))) (σ.set i (some v)) b) : Ow O pa ρ σ b := by
  rcases h with h | h | h
  · exact .inl h
  · exact .inr (.inl h)
  · exact .inr (.inr (owns_set h))
theorem ER.set {i : Nat} (r : ER w K O pa ρ σ H) (x : Rep w K (Ow O pa ρ σ) H v d) : ER w K O pa (ρ.set i (some (.fz d))) (σ.set i (some v)) H where
  len := by rw [List.length_set, List.length_set]; exact r.len
  dom := r.dom
  pool := fun a c h => by
    obtain ⟨h1, ns, h2⟩ := r.pool a c h
    exact ⟨h1, ns, h2.mono (fun _ z => .inl (ow_set z)) fun _ _ _ z => z⟩
  slot := fun j s h => by
    by_cases e : i = j
    · subst e
      by_cases hi : i < ρ.length
      · rw [List.getElem?_set_self hi] at h
        cases h
        exact ⟨v, by rw [List.getElem?_set_self (by rw [← r.len]; exact hi)], Rep.mono (fun _ z => .inl (ow_set z)) (fun _ _ _ z => z) x⟩
      · rw [List.getElem?_eq_none (by simpa using hi)] at h
        cases h
    · rw [List.getElem?_set_ne e] at h
      obtain ⟨u, h1, h2⟩ := r.slot j s h
      exact ⟨u, by rw [List.getElem?_set_ne e]; exact h1, h2.mono (fun _ z => .inl (ow_set z)) (fun _ _ _ z => z) fun _ _ _ _ z _ => z⟩
theorem Sets.er (s : Sets w K O pa H is ρ σ ρ' σ') (r : ER w K O pa ρ σ H) : ER w K O pa ρ' σ' H := by
  induction s with
  | refl => exact r
  | step _ _ x ih => exact ih.set x
theorem SR.set {Fz : Hp} {i : Nat} (r : SR w K O pa Fz ρ σ H) (x : Rep w K (Ow O pa ρ σ) H v d) : SR w K O pa Fz (ρ.set i (some (.fz d))) (σ.set i (some v)) H where
  toER := r.toER.set x
  keep := r.keep
  fresh := fun b h => r.fresh b (owns_set h)
  sep := fun j k s t b h1 h2 h3 h4 h5 h6 => by
    have no : ∀ {l : Nat} {u : Sl}, (ρ.set i (some (.fz d)))[l]? = some (some u) → u.own = true → i ≠ l := fun {l u} a b e => by
      subst e
      by_cases hi : i < ρ.length
      · rw [List.getElem?_set_self hi] at a
        cases a
        cases b
      · rw [List.getElem?_eq_none (by simpa using hi)] at a
        cases a
    have n1 := no h1 h2
    have n2 := no h4 h5
    rw [List.getElem?_set_ne n1] at h1 h3
    rw [List.getElem?_set_ne n2] at h4 h6
    exact r.sep j k s t b h1 h2 h3 h4 h5 h6
  fpa := r.fpa
  fO := r.fO
theorem Sets.sr {Fz : Hp} (s : Sets w K O pa H is ρ σ ρ' σ') (r : SR w K O pa Fz ρ σ H) : SR w K O pa Fz ρ' σ' H := by
  induction s with
  | refl => exact r
  | step _ _ x ih => exact ih.set x
theorem wipe_set {i : Nat} {x : Option V} : ∀ {vs : List Nat}, i ∈ vs → wipe (σ.set i x) vs = wipe σ vs
  | [], h => by simp at h
  | u :: vs, h => by
    unfold wipe
    by_cases e : i ∈ vs
    · rw [wipe_set e]
    · have e2 : i = u := by simpa [e] using h
      subst e2
      have : ∀ (l : List Nat), i ∉ l → wipe (σ.set i x) l = (wipe σ l).set i x := by
        intro l
        induction l with
        | nil => intro _; rfl
        | cons y l ih =>
          intro hn
          simp only [List.mem_cons, not_or] at hn
          unfold wipe
          rw [ih hn.2, List.set_comm _ _ hn.1]
      rw [this vs e, List.set_set]
theorem wipe_wipe : ∀ {vs : List Nat}, wipe (wipe σ vs) vs = wipe σ vs := by
  have gen : ∀ (us vs : List Nat), (∀ u ∈ us, u ∈ vs) → wipe (wipe σ us) vs = wipe σ vs := by
    intro us
    induction us with
    | nil => intro vs _; rfl
    | cons u us ih =>
      intro vs h
      show wipe ((wipe σ us).set u none) vs = _
      rw [wipe_set (h u List.mem_cons_self)]
      exact ih vs fun x hx => h x (List.mem_cons_of_mem _ hx)
  intro vs
  exact gen vs vs fun _ h => h
theorem Sets.wipe_eq {vs : List Nat} (s : Sets w K O pa H is ρ σ ρ' σ') (h : ∀ i ∈ is, i ∈ vs) : wipe σ' vs = wipe σ vs := by
  induction s with
  | refl => rfl
  | step _ hi _ ih => rw [wipe_set (h _ hi)]; exact ih

@[simp] def wipeR (ρ : Rho) : List Nat → Rho
  | [] => ρ
  | v :: vs => (wipeR ρ vs).set v none
theorem wipeR_length : ∀ vs : List Nat, (wipeR ρ vs).length = ρ.length
  | [] => rfl
  | v :: vs => by unfold wipeR; rw [List.length_set, wipeR_length vs]
theorem wipeR_some {i : Nat} {x : Sl} : ∀ {vs : List Nat}, (wipeR ρ vs)[i]? = some (some x) → ρ[i]? = some (some x) ∧ i ∉ vs
  | [], h => ⟨h, by simp⟩
  | v :: vs, h => by
    unfold wipeR at h
    by_cases hi : v = i
    · subst hi
      by_cases hv : v < (wipeR ρ vs).length
      · rw [List.getElem?_set_self hv] at h; cases h
      · rw [List.getElem?_eq_none (by simpa using hv)] at h; cases h
    · rw [List.getElem?_set_ne hi] at h
      obtain ⟨h1, h2⟩ := wipeR_some h
      exact ⟨h1, by simp only [List.mem_cons, not_or]; exact ⟨fun e => hi e.symm, h2⟩⟩
theorem owns_wipe {vs : List Nat} {b : Addr} (h : owns (wipeR ρ vs) (wipe σ vs) b) : owns ρ σ b := by
  obtain ⟨j, s, h1, h2, h3⟩ := h
  obtain ⟨h4, h5⟩ := wipeR_some h1
  exact ⟨j, s, h4, h2, (wipe_some h3).1⟩
/-- a block's start: all that was owned is O now, and some more -/
theorem ER.block {vs : List Nat} (r : ER w K O pa ρ σ H) (hO : ∀ b, Ow O pa ρ σ b → O' b) (hn : ∀ b, O' b → Ow O pa ρ σ b ∨ H b = none) (hd : ∀ b, O' b → H' b ≠ none)
    (k : Ext pa H H') : ER w K O' pa (wipeR ρ vs) (wipe σ vs) H' := by
  have sub : ∀ b, Ow O' pa (wipeR ρ vs) (wipe σ vs) b → Ow O pa ρ σ b ∨ H b = none := by
    rintro b (h | h | h)
    · exact hn b h
    · exact .inl (.inr (.inl h))
    · exact .inl (.inr (.inr (owns_wipe h)))
  refine ⟨by rw [wipeR_length, wipe_length]; exact r.len, hd, fun a c h => ?_, fun i s h => ?_⟩
  · obtain ⟨h1, ns, h2⟩ := r.pool a c h
    exact ⟨k.2 a c h h1, ns, h2.mono sub (wkeep ow_pa k)⟩
  · obtain ⟨h1, h2⟩ := wipeR_some h
    obtain ⟨u, h3, h4⟩ := r.slot i s h1
    refine ⟨u, by rw [wipe_out h2]; exact h3, h4.mono sub (wkeep ow_pa k) fun _ b o _ e n => k.1 b o n e⟩
end

/-! ### targets -/
section
variable {X : Cx} {pos : Pos}
@[simp] def gN (i : Nat) : Wg := fun d ρ Q => Q (ρ.set i (some (.fz d)))
@[simp] def gTs : List Wg → List D → Rho → (Rho → Prop) → Prop
  | [], [], ρ, Q => Q ρ
  | g :: gs, d :: ds, ρ, Q => g d ρ fun ρ' => gTs gs ds ρ' Q
  | _, _, _, _ => False
@[simp] def gT (gs : List Wg) : Wg := fun d ρ Q => match d with
  | .tuple ds => ds.length = gs.length ∧ gTs gs ds ρ Q
  | _ => False
theorem g_name {i : Nat} {x : Str} (hN : X.N.Nodup) (hi : X.N[i]? = some x) (hx : Loc X.env.scope x) (hf : X.fn x = true ∨ X.env.scope.names.lookup x = some .local := by first | exact .inl rfl | exact .inr rfl | assumption) : QG X (.Name x pos) [i] (gN i) :=
  PG.imp (pg_name hN hi hx hf) fun v σ H Q ⟨O, pa, ρ, d, Q', r, x, q, k⟩ => k _ _ q (.step .refl (List.mem_singleton.mpr rfl) x)
/-- a list of targets -/
structure QGs (X : Cx) (es : List Expr) (is : List Nat) (gs : List Wg) : Prop where
  len : es.length = gs.length
  run : PGs X es fun vs σ H Q => ∃ O pa ρ ds Q', ER X.w X.K O pa ρ σ H ∧ RepA X.w X.K (Ow O pa ρ σ) H vs ds ∧ gTs gs ds ρ Q' ∧ ∀ ρ' σ', Q' ρ' → Sets X.w X.K O pa H is ρ σ ρ' σ' → Q σ' H
theorem gs_nil : QGs X [] [] [] := by
  refine ⟨rfl, ⟨fun pins s σ H vs us Q I r h => pgs_nil.run pins s σ H vs us Q I r ?_⟩⟩
  obtain ⟨O, pa, ρ, ds, Q', er, x, q, k⟩ := h
  cases x with
  | nil => exact ⟨rfl, k _ _ q .refl⟩
  | cons _ _ => exact q.elim
theorem Sets.trans {w : World} {K : PySem.W.Frag} {O : Addr → Prop} {pa : PAd} {H : Hp} {is js ks : List Nat} {ρ ρ' ρ'' : Rho} {σ σ' σ'' : St} (a : Sets w K O pa H is ρ σ ρ' σ') (b : Sets w K O pa H js ρ' σ' ρ'' σ'') (h1 : ∀ i ∈ is, i ∈ ks) (h2 : ∀ i ∈ js, i ∈ ks) : Sets w K O pa H ks ρ σ ρ'' σ'' := by
  have a' : Sets w K O pa H ks ρ σ ρ' σ' := by
    clear b
    induction a with
    | refl => exact .refl
    | step _ hi x ih => exact .step ih (h1 _ hi) x
  clear a
  induction b with
  | refl => exact a'
  | step _ hi x ih => exact .step ih (h2 _ hi) x
theorem Sets.ow {w : World} {K : PySem.W.Frag} {O : Addr → Prop} {pa : PAd} {H : Hp} {is : List Nat} {ρ ρ' : Rho} {σ σ' : St} (a : Sets w K O pa H is ρ σ ρ' σ') : ∀ b, Ow O pa ρ' σ' b → Ow O pa ρ σ b := by
  induction a with
  | refl => exact fun _ h => h
  | step _ _ _ ih => exact fun b h => ih b (ow_set h)
theorem gs_cons {e : Expr} {es : List Expr} {is js : List Nat} {g : Wg} {gs : List Wg} (h1 : QG X e is g) (h2 : QGs X es js gs)
    (hs : (assignEach (e :: es) X.env).map (·.2) = assign e X.env :: (assignEach es X.env).map (·.2) := by rfl) : QGs X (e :: es) (is ++ js) (g :: gs) := by
  refine ⟨by simp [h2.len], ⟨fun pins s σ H vs us Q I r h => (pgs_cons h1 h2.run hs).run pins s σ H vs us Q I r ?_⟩⟩
  obtain ⟨O, pa, ρ, ds, Q', er, x, q, k⟩ := h
  cases x with
  | nil => exact q.elim
  | cons x1 x2 =>
    refine ⟨_, _, rfl, O, pa, ρ, _, _, er, x1, q, fun ρ1 σ1 q1 s1 => ⟨O, pa, ρ1, _, Q', s1.er er, x2.mono (fun b h => .inl (s1.ow b h)) (fun _ _ _ z => z), q1, fun ρ2 σ2 q2 s2 => k _ _ q2 (s1.trans s2 (fun i hi => List.mem_append_left _ hi) (fun i hi => List.mem_append_right _ hi))⟩⟩
theorem g_tup {es : List Expr} {k : Nat} {is : List Nat} {gs : List Wg} (h : QGs X es is gs) (hc : X.calm = true := by rfl)
    (hn : (assignEach es X.env).length = gs.length := by rfl) (hst : (assignEach es X.env).findIdx? (·.1) = none := by rfl) : QG X (.Tuple es k pos) is (gT gs) := by
  refine PG.imp (pg_tup (n := gs.length) hc h.run hn hst) fun v σ H Q ⟨O, pa, ρ, d, Q', r, x, q, k⟩ => ?_
  cases x with
  | tup h1 h2 h3 =>
    exact ⟨_, _, rfl, h1.sq, by rw [h2.length]; exact q.1, O, pa, ρ, _, Q', r, h2, q.2, k⟩
  | non => exact q.elim
  | bl => exact q.elim
  | int => exact q.elim
  | str => exact q.elim
  | lst => exact q.elim
  | dct => exact q.elim
  | dcs => exact q.elim
end
end DL

namespace DL
open PySem PySem.Spec L2
open PyProof.Rows hiding St

section
variable {w : World} {K : PySem.W.Frag} {O O' W W' : Addr → Prop} {pa : PAd} {ρ ρ' : Rho} {σ σ' : St} {H H' H1 : Hp} {v : V} {d : D} {is : List Nat}
theorem Ext.kept (r : ER w K O pa ρ σ H) (e : Ext pa H H') : Kept (Ow O pa ρ σ) H H' := fun b o n h => e.1 b o (fun z => n (ow_pa b z)) h
theorem drop_cons {α : Type} {l : List α} {i : Nat} {x : α} (h : l[i]? = some x) : l.drop i = x :: l.drop (i + 1) := by
  obtain ⟨h1, h2⟩ := List.getElem?_eq_some_iff.mp h
  rw [← h2]
  exact List.drop_eq_getElem_cons h1
end

/-- an expression that gives a new list -/
def tF (w : World) (K : PySem.W.Frag) (t : Wa) : TE := fun σ H Q => ∃ O pa ρ Q', ER w K O pa ρ σ H ∧ t ρ Q' ∧ ∀ ds, Q' ds → ∀ p xs H', Ext pa H H' → H p = none → H' p = some (.lst xs) → RepA w K (fun b => Ow O pa ρ σ b ∨ b = p) H' xs ds → ds.length ≤ sizeLine → Q (.ref p) H'
abbrev QF (X : Cx) (e : Expr) (t : Wa) : Prop := PE X e (tF X.w X.K t)
theorem ext_none {pa : PAd} {H H' : Hp} {p : Addr} (e : Ext pa H H') (hp : ∀ b, isP pa b → H' b ≠ none) (n : H' p = none) : H p = none := by
  cases q : H p with
  | none => rfl
  | some o =>
    by_cases z : isP pa p
    · exact absurd n (hp p z)
    · rw [e.1 p o z q] at n; cases n

/-! ### comprehensions -/
@[simp] def lcW (vs : List Nat) (g : Wg) (tt : Wt) (te : Wx) (ρ : Rho) : List D → List D → (List D → Prop) → Prop
  | [], acc, Q => Q acc
  | d :: ds, acc, Q => g d (wipeR ρ vs) fun ρ2 => tt ρ2 fun b => if b = true then te ρ2 fun y => lcW vs g tt te ρ ds (acc ++ [y]) Q else lcW vs g tt te ρ ds acc Q
@[simp] def wfLc (wi : Wa) (vs : List Nat) (g : Wg) (tt : Wt) (te : Wx) : Wa := fun ρ Q => wi ρ fun ds => lcW vs g tt te ρ ds [] Q
@[simp] def wLc (wi : Wa) (vs : List Nat) (g : Wg) (tt : Wt) (te : Wx) : Wx := fun ρ Q => wfLc wi vs g tt te ρ fun acc => Q (.list acc)
@[simp] def wYes : Wt := fun _ Q => Q true
abbrev QTs (X : Cx) (ifs : List Expr) (t : Wt) : Prop := PTs X ifs (tT X.w X.K t)
section
variable {X : Cx} {pos : Pos}
theorem qts_nil : QTs X [] wYes := ⟨fun pins s σ H Q I ⟨O, pa, ρ, Q', r, q, k⟩ => pts_nil.run pins s σ H Q I (k true q H (Ext.refl _ _))⟩
theorem qts_one {c : Expr} {t : Wt} (h : QT X c t) : QTs X [c] t := pts_one h
/-- the reading of a comprehension, by its parts -/
theorem lc_readF {wi : Wa} {vs : List Nat} {is : List Nat} {g : Wg} {tt : Wt} {te : Wx} (his : ∀ i ∈ is, i ∈ vs) {w : World} {K : PySem.W.Frag} {σ : St} {H : Hp} {Q : VK} (h : tF w K (wfLc wi vs g tt te) σ H Q) :
    tLc (tI w K wi) (tG w K is g) (tT w K tt) (tD w K te) vs σ H Q := by
  obtain ⟨O, pa, ρ, Q', r, q, k⟩ := h
  refine ⟨O, pa, ρ, _, r, q, fun ds hd J H1 x wd => ?_⟩
  intro D hD
  have r1 := r.ext x
  have nD : ¬ Ow O pa ρ σ D := fun z => r1.domW D z hD
  have npD : ¬ isP pa D := fun z => nD (ow_pa D z)
  -- what holds ahead of turn i
  let G : Nat → Hp → Prop := fun i H2 => ∃ acc xs, lcW vs g tt te ρ (ds.drop i) acc Q' ∧ H2 D = some (.lst xs) ∧ RepA w K (fun b => Ow O pa ρ σ b ∨ b = D) H2 xs acc ∧ acc.length ≤ i ∧ Ext pa H1 H2
  refine ⟨fun i m H2 => i + m = ds.length ∧ G i H2, ⟨ds.length, by simp, [], [], by simpa using hd, upd_same, .nil, by simp, Ext.new hD⟩, ?_⟩
  rintro i m H2 ⟨em, acc, xs, hl, eD, ra, la, e2⟩
  have r2 : ER w K O pa ρ σ H2 := r1.ext e2
  have kept : Kept (Ow O pa ρ σ) H1 H2 := Ext.kept r1 e2
  by_cases hi : i < ds.length
  · refine .inr ⟨wd.go H2 kept i hi, fun H' => G (i + 1) H', fun H' g' => ⟨m - 1, by omega, by omega, g'⟩, fun y H3 hy => ?_⟩
    obtain ⟨sm, d, ed, rd⟩ := wd.yld H2 (fun b => Ow O pa ρ σ b ∨ b = D) kept (fun b z => z.elim .inl fun e => .inr (by rw [e]; exact hD)) (fun b z => z.elim (r2.domW b) fun e => by rw [e, eD]; simp) i y H3 hi hy
    rw [drop_cons ed] at hl
    have e3 : Ext pa H2 H3 := .of sm
    have e13 : Ext pa H1 H3 := e2.trans e3
    have r3 : ER w K O pa ρ σ H3 := r2.ext e3
    have eD3 : H3 D = some (.lst xs) := sm _ _ eD
    have ra3 : RepA w K (fun b => Ow O pa ρ σ b ∨ b = D) H3 xs acc := ra.mono (fun _ z => .inl z) fun b o _ z => sm b o z
    have rb : ER w K (fun b => Ow O pa ρ σ b ∨ b = D) pa (wipeR ρ vs) (wipe σ vs) H3 := r1.block (fun b z => .inl z) (fun b z => z.elim .inl fun e => .inr (by rw [e]; exact hD)) (fun b z => z.elim (r3.domW b) fun e => by rw [e, eD3]; simp) e13
    have sub : ∀ b, Ow (fun b => Ow O pa ρ σ b ∨ b = D) pa (wipeR ρ vs) (wipe σ vs) b → (Ow O pa ρ σ b ∨ b = D) := by
      rintro b (z | z | z)
      · exact z
      · exact .inl (ow_pa b z)
      · exact .inl (.inr (.inr (owns_wipe z)))
    refine ⟨_, pa, wipeR ρ vs, d, _, rb, rd.mono (fun b z => .inl (sub b z)) (fun _ _ _ z => z), hl, fun ρ2 σ2 q2 s2 => ⟨(s2.wipe_eq his).trans wipe_wipe, ?_⟩⟩
    have rc := s2.er rb
    refine ⟨_, pa, ρ2, _, rc, q2, fun b hb H4 e4 => ?_⟩
    have eD4 : H4 D = some (.lst xs) := e4.1 _ _ npD eD3
    have ra4 : RepA w K (fun b => Ow O pa ρ σ b ∨ b = D) H4 xs acc := ra3.ext (fun b z => .inl (ow_pa b z)) e4
    cases b with
    | false =>
      rw [if_neg Bool.false_ne_true] at hb
      exact iteF ⟨acc, xs, hb, eD4, ra4, by omega, e13.trans e4⟩
    | true =>
      rw [if_pos rfl] at hb
      refine iteT ⟨_, pa, ρ2, _, rc.ext e4, hb, fun y2 hy2 v2 H5 e5 rp => ?_⟩
      have eD5 : H5 D = some (.lst xs) := e5.1 _ _ npD eD4
      have ll := ra4.length
      have ln := wd.len
      refine ⟨xs, eD5, by omega, acc ++ [y2], xs ++ [v2], hy2, upd_same, ?_, by simp; omega, ?_⟩
      · have u5 : ∀ b o, ¬ (Ow O pa ρ σ b ∨ b = D) → H5 b = some o → upd H5 D (.lst (xs ++ [v2])) b = some o := fun b o n z => by
          rw [upd_ne (fun e => n (.inr e))]; exact z
        refine RepA.append ((ra4.ext (fun b z => .inl (ow_pa b z)) e5).mono (fun _ z => .inl z) u5) (.cons (rp.mono (fun b z => .inl (.inl z)) fun b o n z => ?_) .nil)
        exact u5 b o (fun q => n (.inl q)) z
      · have e15 : Ext pa H1 H5 := e13.trans (e4.trans e5)
        refine ⟨fun b o n z => ?_, fun a c hc p => ?_⟩
        · rw [upd_ne (ne_of_none z hD)]
          exact e15.1 b o n z
        · obtain ⟨i', j', k', s', h1, h2⟩ := e15.2 a c hc p
          exact ⟨i', j', k', s', by rw [upd_ne (fun e => npD ⟨c, by rw [← e]; exact hc⟩)]; exact h1, h2⟩
  · have ei : i = ds.length := by omega
    subst ei
    rw [List.drop_length] at hl
    refine .inl ⟨wd.stop H2 kept, ?_⟩
    refine k acc hl D xs H2 (x.trans e2) (ext_none x (fun b z => r1.domW b (ow_pa b z)) hD) eD ra ?_
    have := wd.len
    omega
theorem tF_of {w : World} {K : PySem.W.Frag} {t : Wa} {σ : St} {H : Hp} {Q : VK} (h : tD w K (fun ρ Q => t ρ fun acc => Q (.list acc)) σ H Q) : tF w K t σ H Q := by
  obtain ⟨O, pa, ρ, Q', r, q, k⟩ := h
  exact ⟨O, pa, ρ, _, r, q, fun ds hd p xs H' x np ep rp l => k _ hd _ _ x (.lst ⟨fun z => r.domW p z np, ep⟩ (rp.mono (fun b z => .inl (.inl z)) fun _ _ _ z => z) l)⟩
theorem lc_read {wi : Wa} {vs : List Nat} {is : List Nat} {g : Wg} {tt : Wt} {te : Wx} (his : ∀ i ∈ is, i ∈ vs) {w : World} {K : PySem.W.Frag} {σ : St} {H : Hp} {Q : VK} (h : tD w K (wLc wi vs g tt te) σ H Q) :
    tLc (tI w K wi) (tG w K is g) (tT w K tt) (tD w K te) vs σ H Q := lc_readF his (tF_of h)
theorem qf_lc {elt tg iter : Expr} {ifs : List Expr} {scope : Scope} {own : List (Str × Nat)} {is : List Nat} {wi : Wa} {g : Wg} {tt : Wt} {te : Wx} (hN : X.N.Nodup) (hi : QI X tg iter wi) (ok : BlkOk X.N X.env.scope scope own)
    (hg : ∀ (s : Shared) (H : Hp) (C : Addr) (cl : List (Str × Addr)) (fp : List Addr), QG (X.blk s H scope (compEnvC scope cl C X.env) fp) tg is g) (ht : ∀ (s : Shared) (H : Hp) (C : Addr) (cl : List (Str × Addr)) (fp : List Addr), QTs (X.blk s H scope (compEnvC scope cl C X.env) fp) ifs tt)
    (he : ∀ (s : Shared) (H : Hp) (C : Addr) (cl : List (Str × Addr)) (fp : List Addr), QE (X.blk s H scope (compEnvC scope cl C X.env) fp) elt te) (his : ∀ i ∈ is, i ∈ own.map (·.2) := by decide) (hc : X.calm = true := by rfl) (hs : ∀ x, foldedSetIterable iter X.env x = pure x := by intro _; rfl) :
    QF X (.ListComp elt [⟨tg, iter, ifs, 0⟩] scope pos) (wfLc wi (own.map (·.2)) g tt te) :=
  PE.imp (pe_lc hc hN hi ok hg ht he hs) fun _ _ _ h => lc_readF his h
theorem q_lc {elt tg iter : Expr} {ifs : List Expr} {scope : Scope} {own : List (Str × Nat)} {is : List Nat} {wi : Wa} {g : Wg} {tt : Wt} {te : Wx} (hN : X.N.Nodup) (hi : QI X tg iter wi) (ok : BlkOk X.N X.env.scope scope own)
    (hg : ∀ (s : Shared) (H : Hp) (C : Addr) (cl : List (Str × Addr)) (fp : List Addr), QG (X.blk s H scope (compEnvC scope cl C X.env) fp) tg is g) (ht : ∀ (s : Shared) (H : Hp) (C : Addr) (cl : List (Str × Addr)) (fp : List Addr), QTs (X.blk s H scope (compEnvC scope cl C X.env) fp) ifs tt)
    (he : ∀ (s : Shared) (H : Hp) (C : Addr) (cl : List (Str × Addr)) (fp : List Addr), QE (X.blk s H scope (compEnvC scope cl C X.env) fp) elt te) (his : ∀ i ∈ is, i ∈ own.map (·.2) := by decide) (hc : X.calm = true := by rfl) (hs : ∀ x, foldedSetIterable iter X.env x = pure x := by intro _; rfl) :
    QE X (.ListComp elt [⟨tg, iter, ifs, 0⟩] scope pos) (wLc wi (own.map (·.2)) g tt te) :=
  PE.imp (pe_lc hc hN hi ok hg ht he hs) fun _ _ _ h => lc_read his h
end

/-! ### statements -/
section
variable {X : Cx} {pos : Pos}
@[simp] def wNext : Ws := fun E ρ => E.nx ρ
@[simp] def wSeq (t u : Ws) : Ws := fun E ρ => t { E with nx := u E } ρ
theorem qss_nil : QSs X [] wNext := PSs.imp pss_nil fun Dd σ H ⟨O, pa, Fz, ρ, E, r, q, k, _⟩ => k ρ q σ H r
theorem qss_cons {st : Stmt} {rest : List Stmt} {t u : Ws} (h1 : QS X st t) (h2 : QSs X rest u) : QSs X (st :: rest) (wSeq t u) :=
  PSs.imp (pss_cons h1 h2) fun Dd σ H ⟨O, pa, Fz, ρ, E, r, q, k1, k2, k3, k4⟩ =>
    ⟨O, pa, Fz, ρ, _, r, q, fun ρ' q' σ' H' r' => ⟨O, pa, Fz, ρ', E, r', q', k1, k2, k3, k4⟩, k2, k3, k4⟩
theorem qss_one {st : Stmt} {t : Ws} (h1 : QS X st t) : QSs X [st] t := pss_one h1
@[simp] def wRet (t : Wx) : Ws := fun E ρ => t ρ E.rt
theorem qs_ret {e : Expr} {t : Wx} (h : QE X e t) : QS X (.Return (some e) pos) (wRet t) :=
  PS.imp (ps_ret h) fun Dd σ H ⟨O, pa, Fz, ρ, E, r, q, k1, k2, k3, k4⟩ => ⟨O, pa, ρ, _, r.toER, q, fun d hd v H' x rp => k2 d hd v H' (fun b o z => x.1 b o (fun n => by rw [r.fpa b n] at z; cases z) (r.keep b o z))
    (fun a c hc => x.2 a c hc (r.pool a c hc).1) (rp.mono (fun b z => .inl (z.elim .inl fun n => .inr (.inl n))) fun _ _ _ z => z)⟩
@[simp] def wRetN : Ws := fun E _ => E.rt .none
theorem qs_retN : QS X (.Return none pos) wRetN :=
  PS.imp ps_retN fun Dd σ H ⟨O, pa, Fz, ρ, E, r, q, k1, k2, k3, k4⟩ => k2 _ q .non H r.keep (fun a c hc => (r.pool a c hc).1) .non
theorem SR.ext {w : World} {K : PySem.W.Frag} {O : Addr → Prop} {pa : PAd} {Fz : Hp} {ρ : Rho} {σ : St} {H H' : Hp} (r : SR w K O pa Fz ρ σ H) (e : Ext pa H H') : SR w K O pa Fz ρ σ H' :=
  ⟨r.toER.ext e, fun b o z => e.1 b o (fun n => by rw [r.fpa b n] at z; cases z) (r.keep b o z), r.fresh, r.sep, r.fpa, r.fO⟩
@[simp] def wIf (c : Wt) (t u : Ws) : Ws := fun E ρ => c ρ fun b => if b = true then t E ρ else u E ρ
theorem qs_if {c : Expr} {a b : List Stmt} {tc : Wt} {t u : Ws} (hc : QT X c tc) (ha : QSs X a t) (hb : QSs X b u) : QS X (.If c a b pos) (wIf tc t u) :=
  PS.imp (ps_if hc ha hb) fun Dd σ H ⟨O, pa, Fz, ρ, E, r, q, k⟩ => ⟨O, pa, ρ, _, r.toER, q, fun b hb H' x => by
    cases b with
    | true => rw [if_pos rfl] at hb; exact iteT ⟨O, pa, Fz, ρ, E, r.ext x, hb, k⟩
    | false => rw [if_neg Bool.false_ne_true] at hb; exact iteF ⟨O, pa, Fz, ρ, E, r.ext x, hb, k⟩⟩
@[simp] def wPass : Ws := wNext
theorem qs_pass : QS X (.Pass pos) wNext := PS.imp ps_pass fun Dd σ H ⟨O, pa, Fz, ρ, E, r, q, k, _⟩ => k ρ q σ H r
@[simp] def wNever : Ws := fun _ _ => False
theorem qs_never {st : Stmt} : QS X st wNever := ⟨fun _ _ _ _ _ _ ⟨_, _, _, _, _, _, q, _⟩ => q.elim⟩
theorem qss_never {st : List Stmt} : QSs X st wNever := ⟨fun _ _ _ _ _ _ ⟨_, _, _, _, _, _, q, _⟩ => q.elim⟩
@[simp] def wDrop (t : Wx) : Ws := fun E ρ => t ρ fun _ => E.nx ρ
theorem qs_expr {e : Expr} {t : Wx} (h : QE X e t) (hs : swapsWith e none pos.line X.env = pure false := by rfl) : QS X (.Expr e pos) (wDrop t) :=
  PS.imp (ps_expr h hs) fun Dd σ H ⟨O, pa, Fz, ρ, E, r, q, k1, _⟩ => ⟨O, pa, ρ, _, r.toER, q, fun d hd v H' x _ => k1 ρ hd σ H' (r.ext x)⟩
/-- name = value -/
@[simp] def wSet (i : Nat) (t : Wx) : Ws := fun E ρ => t ρ fun d => E.nx (ρ.set i (some (.fz d)))
theorem qs_set {i : Nat} {x : Str} {e : Expr} {t : Wx} {pos' : Pos} (hN : X.N.Nodup) (hi : X.N[i]? = some x) (hx : Loc X.env.scope x) (he : QE X e t) (hs : swapsWith e (some (.Name x pos')) pos.line X.env = pure false := by rfl) (hf : X.fn x = true ∨ X.env.scope.names.lookup x = some .local := by first | exact .inl rfl | exact .inr rfl | assumption) :
    QS X (.Assign [.Name x pos'] e pos) (wSet i t) :=
  PS.imp (ps_set hN hi hx he hs hf) fun Dd σ H ⟨O, pa, Fz, ρ, E, r, q, k1, _⟩ => ⟨O, pa, ρ, _, r.toER, q, fun d hd v H' x rp => k1 _ hd _ _ ((r.ext x).set rp)⟩
/-- target = value -/
@[simp] def wAsg (t : Wx) (g : Wg) : Ws := fun E ρ => t ρ fun d => g d ρ E.nx
theorem qs_asg {tg e : Expr} {t : Wx} {is : List Nat} {g : Wg} (he : QE X e t) (hg : QG X tg is g) (hs : swapsWithSole [tg] e pos.line X.env = pure false := by rfl) (hw : swappedStores [tg] e X.env = pure none := by rfl)
    (h1 : (assignEach [tg] X.env).map (·.2) = [assign tg X.env] := by rfl) : QS X (.Assign [tg] e pos) (wAsg t g) :=
  PS.imp (ps_asg he hg hs hw h1) fun Dd σ H ⟨O, pa, Fz, ρ, E, r, q, k1, _⟩ => ⟨O, pa, ρ, _, r.toER, q, fun d hd v H' x rp => ⟨O, pa, ρ, d, _, r.toER.ext x, rp, hd, fun ρ' σ' q' s' => k1 _ q' _ _ (s'.sr (r.ext x))⟩⟩
/-- a, b = e1, e2 with plain local names -/
@[simp] def wPar (i j : Nat) (t : Wa) : Ws := fun E ρ => t ρ fun ds => match ds with
  | [d, e] => E.nx ((ρ.set i (some (.fz d))).set j (some (.fz e)))
  | _ => False
theorem qs_par {i j : Nat} {x y : Str} {a b : Expr} {t : Wa} {px py pt : Pos} {kt k2 pt2} (hN : X.N.Nodup) (hi : X.N[i]? = some x) (hj : X.N[j]? = some y) (hij : i ≠ j)
    (hx : X.env.scope.names.lookup x = some .local) (hy : X.env.scope.names.lookup y = some .local) (ha : QA X [a, b] t)
    (hw : swappedStores [.Tuple [.Name x px, .Name y py] kt pt] (.Tuple [a, b] k2 pt2) X.env = pure (some [x, y])) (hc : X.calm = true := by rfl)
    (hs : swapsWithSole [.Tuple [.Name x px, .Name y py] kt pt] (.Tuple [a, b] k2 pt2) pos.line X.env = pure false := by rfl) :
    QS X (.Assign [.Tuple [.Name x px, .Name y py] kt pt] (.Tuple [a, b] k2 pt2) pos) (wPar i j t) :=
  PS.imp (ps_par hc hN hi hj hij hx hy ha hw hs) fun Dd σ H ⟨O, pa, Fz, ρ, E, r, q, k1, _⟩ => ⟨O, pa, ρ, _, r.toER, q, fun ds hd vs H' x rp => by
    cases rp with
    | nil => exact hd.elim
    | cons r1 rp =>
      cases rp with
      | nil => exact hd.elim
      | cons r2 rp =>
        cases rp with
        | cons _ _ => exact hd.elim
        | nil => exact ⟨_, _, rfl, k1 _ hd _ _ (((r.ext x).set r1).set (r2.mono (fun b z => .inl (ow_set z)) fun _ _ _ z => z))⟩⟩

/-- name = [..] on one line, the name a local -/
theorem qs_setLc {i : Nat} {y : Str} {py : Pos} {elt tg iter : Expr} {ifs : List Expr} {scope : Scope} {own : List (Str × Nat)} {is : List Nat} {cpos : Pos} {wi : Wa} {g : Wg} {tt : Wt} {te : Wx} (hN : X.N.Nodup) (hy : X.N[i]? = some y) (hyl : X.env.scope.names.lookup y = some .local)
    (hsw : swapsWith (.ListComp elt [⟨tg, iter, ifs, 0⟩] scope cpos) (some (.Name y py)) pos.line X.env = pure true) (hi : QI X tg iter wi) (ok : BlkOk X.N X.env.scope scope own)
    (hg : ∀ (s : Shared) (H : Hp) (C : Addr) (cl : List (Str × Addr)) (fp : List Addr), QG (X.blk s H scope (compEnvC scope cl C X.env) fp) tg is g) (ht : ∀ (s : Shared) (H : Hp) (C : Addr) (cl : List (Str × Addr)) (fp : List Addr), QTs (X.blk s H scope (compEnvC scope cl C X.env) fp) ifs tt)
    (he : ∀ (s : Shared) (H : Hp) (C : Addr) (cl : List (Str × Addr)) (fp : List Addr), QE (X.blk s H scope (compEnvC scope cl C X.env) fp) elt te) (his : ∀ i ∈ is, i ∈ own.map (·.2) := by decide) (hc : X.calm = true := by rfl) (hs : ∀ x, foldedSetIterable iter X.env x = pure x := by intro _; rfl) :
    QS X (.Assign [.Name y py] (.ListComp elt [⟨tg, iter, ifs, 0⟩] scope cpos) pos) (wSet i (wLc wi (own.map (·.2)) g tt te)) :=
  PS.imp (ps_setLc hc hN hy hyl hsw hi ok hg ht he hs) fun Dd σ H ⟨O, pa, Fz, ρ, E, r, q, k1, _⟩ => lc_read his ⟨O, pa, ρ, _, r.toER, q, fun d hd v H' x rp => k1 _ hd _ _ ((r.ext x).set rp)⟩

/-! ### for, while -/
@[simp] def forW (g : Wg) (tb : Ws) : List D → Ws
  | [], E, ρ => E.nx ρ
  | d :: ds, E, ρ => g d ρ fun ρ2 => tb { E with nx := forW g tb ds E, ct := forW g tb ds E, bk := E.nx } ρ2
@[simp] def wFor (wi : Wa) (g : Wg) (tb : Ws) : Ws := fun E ρ => wi ρ fun ds => forW g tb ds E ρ
open Classical in
/-- what must stand through a loop: all but what is owned -/
noncomputable def frozen (W : Addr → Prop) (H : Hp) : Hp := fun b => if W b then none else H b
theorem for_read {wi : Wa} {is : List Nat} {g : Wg} {tb : Ws} {w : World} {K : PySem.W.Frag} {σ : St} {H : Hp} {Dd : Ends} (h : tS w K (wFor wi g tb) Dd σ H) :
    tFor (tI w K wi) (tG w K is g) (tS w K tb) Dd σ H := by
  obtain ⟨O, pa, Fz, ρ, E, r, q, k1, k2, k3, k4⟩ := h
  refine ⟨O, pa, ρ, _, r.toER, q, fun ds hd J H1 x wd => ?_⟩
  have r1 := r.ext x
  let W : Addr → Prop := fun b => isP pa b ∨ owns ρ σ b
  have fW : ∀ b, W b → frozen W H1 b = none := fun b z => by unfold frozen; rw [if_pos z]
  have fN : ∀ b, ¬ W b → frozen W H1 b = H1 b := fun b z => by unfold frozen; rw [if_neg z]
  have OW : ∀ b, O b → ¬ W b := fun b z => by
    rintro (n | n)
    · exact absurd (r.fpa b n) (r.fO b z)
    · exact absurd (r.fresh b n) (r.fO b z)
  have FF : ∀ b o, Fz b = some o → frozen W H1 b = some o := fun b o z => by
    rw [fN b]
    · exact r1.keep b o z
    · rintro (n | n)
      · rw [r.fpa b n] at z; cases z
      · rw [r.fresh b n] at z; cases z
  -- the loop's own frame
  have start : SR w K O pa (frozen W H1) ρ σ H1 := ⟨r1.toER, fun b o z => by
      by_cases hw : W b
      · rw [fW b hw] at z; cases z
      · rw [fN b hw] at z; exact z, fun b z => fW b (.inr z), r.sep, fun b z => fW b (.inl z), fun b z => by rw [fN b (OW b z)]; exact r1.dom b z⟩
  have back : ∀ {ρ' σ' H'}, SR w K O pa (frozen W H1) ρ' σ' H' → SR w K O pa Fz ρ' σ' H' := fun {ρ' σ' H'} s =>
    ⟨s.toER, fun b o z => s.keep b o (FF b o z), fun b z => (by
      cases e : Fz b with
      | none => rfl
      | some o => have := s.fresh b z; rw [FF b o e] at this; cases this), s.sep, r.fpa, r.fO⟩
  refine ⟨fun i m σ2 H2 => i + m = ds.length ∧ ∃ ρ2, SR w K O pa (frozen W H1) ρ2 σ2 H2 ∧ forW g tb (ds.drop i) E ρ2, ⟨ds.length, by simp, ρ, start, by simpa using hd⟩, ?_⟩
  rintro i m σ2 H2 ⟨em, ρ2, s2, hl⟩
  have kept : Kept (Ow O pa ρ σ) H1 H2 := fun b o n z => s2.keep b o (by rw [fN b (fun e => n (e.elim (fun e => .inr (.inl e)) fun e => .inr (.inr e)))]; exact z)
  by_cases hi : i < ds.length
  · refine .inr ⟨wd.go H2 kept i hi, fun σ' H' => ∃ ρ', SR w K O pa (frozen W H1) ρ' σ' H' ∧ forW g tb (ds.drop (i + 1)) E ρ', fun σ' H' g' => ⟨m - 1, by omega, by omega, g'⟩, fun y H3 hy => ?_⟩
    obtain ⟨sm, d, ed, rd⟩ := wd.yld H2 (Ow O pa ρ2 σ2) kept (fun b z => by
      rcases z with z | z | z
      · exact .inl (.inl z)
      · exact .inl (.inr (.inl z))
      · by_cases hw : W b
        · exact .inl (hw.elim (fun e => .inr (.inl e)) fun e => .inr (.inr e))
        · have := s2.fresh b z
          rw [fN b hw] at this
          exact .inr this) (s2.toER.domW) i y H3 hi hy
    rw [drop_cons ed] at hl
    have s3 := s2.ext (Ext.of sm)
    refine ⟨O, pa, ρ2, d, _, s3.toER, rd, hl, fun ρ4 σ4 q4 st4 => ?_⟩
    exact ⟨O, pa, frozen W H1, ρ4, _, st4.sr s3, q4, fun ρ' q' σ' H' r' => ⟨ρ', r', q'⟩, fun d' hd' v' H' h1 h2 h3 => k2 d' hd' v' H' (fun b o z => h1 b o (FF b o z)) h2 h3,
      fun ρ' q' σ' H' r' => k1 ρ' q' σ' H' (back r'), fun ρ' q' σ' H' r' => ⟨ρ', r', q'⟩⟩
  · have ei : i = ds.length := by omega
    subst ei
    rw [List.drop_length] at hl
    exact .inl ⟨wd.stop H2 kept, k1 ρ2 hl σ2 H2 (back s2)⟩
theorem qs_for {tg iter : Expr} {body : List Stmt} {wi : Wa} {is : List Nat} {g : Wg} {tb : Ws} (hp : PassesOwn (model X.prog X.w) X.A X.env X.xe) (hi : QI X tg iter wi) (hg : QG X tg is g) (hb : QSs X body tb) (hc : X.calm = true := by rfl)
    (hs : ∀ x, foldedSetIterable iter X.env x = pure x := by intro _; rfl) : QS X (.For tg iter body [] pos) (wFor wi g tb) :=
  PS.imp (ps_for hp hc hi hg hb hs) fun _ _ _ h => for_read h
def whileN (c : Wt) (tb : Ws) : Nat → Ws
  | 0, _, _ => False
  | n + 1, E, ρ => c ρ fun b => if b = true then tb { E with nx := whileN c tb n E, ct := whileN c tb n E, bk := E.nx } ρ else E.nx ρ
def wWhile (c : Wt) (tb : Ws) : Ws := fun E ρ => ∃ n, whileN c tb n E ρ
theorem qs_while {c : Expr} {body : List Stmt} {tc : Wt} {tb : Ws} (hp : PassesOwn (model X.prog X.w) X.A X.env X.xe) (hc : QT X c tc) (hb : QSs X body tb) : QS X (.While c body [] pos) (wWhile tc tb) :=
  PS.imp (ps_while hp hc hb) fun Dd σ H ⟨O, pa, Fz, ρ, E, r, ⟨n, q⟩, k1, k2, k3, k4⟩ => by
    refine ⟨fun m σ' H' => ∃ ρ', SR X.w X.K O pa Fz ρ' σ' H' ∧ whileN tc tb m E ρ', ⟨n, ρ, r, q⟩, ?_⟩
    rintro m σ' H' ⟨ρ', r', q'⟩
    cases m with
    | zero => exact q'.elim
    | succ m =>
      refine ⟨O, pa, ρ', _, r'.toER, q', fun b hb H2 x => ?_⟩
      cases b with
      | true =>
        rw [if_pos rfl] at hb
        exact iteT ⟨fun σ3 H3 => ∃ ρ3, SR X.w X.K O pa Fz ρ3 σ3 H3 ∧ whileN tc tb m E ρ3, fun σ3 H3 h3 => ⟨m, Nat.lt_succ_self _, h3⟩, O, pa, Fz, ρ', _, r'.ext x, hb, fun ρ4 q4 σ4 H4 r4 => ⟨ρ4, r4, q4⟩, k2, fun ρ4 q4 σ4 H4 r4 => k1 ρ4 q4 σ4 H4 r4, fun ρ4 q4 σ4 H4 r4 => ⟨ρ4, r4, q4⟩⟩
      | false =>
        rw [if_neg Bool.false_ne_true] at hb
        refine iteF ?_
        exact k1 _ hb _ _ (r'.ext x)
end
end DL

namespace DL
open PySem PySem.Spec L2
open PyProof.Rows hiding St

/-! ### and, or, not, if -/
section
variable {X : Cx} {a b c : Expr} {rest : List Expr} {pos : Pos} {ta tb tc : Wx} {sa sb : Wt}
@[simp] def wAndV (ta tb : Wx) : Wx := fun ρ Q => ta ρ (onB fun c => if c = true then tb ρ Q else Q (.bool false))
@[simp] def wOrV (ta tb : Wx) : Wx := fun ρ Q => ta ρ (onB fun c => if c = true then Q (.bool true) else tb ρ Q)
@[simp] def wNotV (ta : Wx) : Wx := fun ρ Q => ta ρ (onB fun c => Q (.bool (!c)))
theorem q_one {op} (h : QE X a ta) : QE X (.BoolOp op [a] pos) ta := pe_one h
theorem q_and (ha : QE X a ta) (hb : QE X (.BoolOp .And (b :: rest) pos) tb) : QE X (.BoolOp .And (a :: b :: rest) pos) (wAndV ta tb) :=
  PE.imp (pe_and ha hb) fun σ H Q ⟨O, pa, ρ, Q', r, q, k⟩ => ⟨O, pa, ρ, _, r, q, fun d hd v H' x rp => by
    obtain ⟨c, rfl, rfl, z⟩ := boolOf rp hd
    refine ⟨c, rfl, ?_⟩
    cases c with
    | true => rw [if_pos rfl] at z; exact iteT ⟨O, pa, ρ, Q', r.ext x, z, fun d hd v H'' x2 rp2 => k d hd v H'' (x.trans x2) rp2⟩
    | false => rw [if_neg Bool.false_ne_true] at z; exact iteF (k _ z _ H' x (.bl false))⟩
theorem q_or (ha : QE X a ta) (hb : QE X (.BoolOp .Or (b :: rest) pos) tb) : QE X (.BoolOp .Or (a :: b :: rest) pos) (wOrV ta tb) :=
  PE.imp (pe_or ha hb) fun σ H Q ⟨O, pa, ρ, Q', r, q, k⟩ => ⟨O, pa, ρ, _, r, q, fun d hd v H' x rp => by
    obtain ⟨c, rfl, rfl, z⟩ := boolOf rp hd
    refine ⟨c, rfl, ?_⟩
    cases c with
    | true => rw [if_pos rfl] at z; exact iteT (k _ z _ H' x (.bl true))
    | false => rw [if_neg Bool.false_ne_true] at z; exact iteF ⟨O, pa, ρ, Q', r.ext x, z, fun d hd v H'' x2 rp2 => k d hd v H'' (x.trans x2) rp2⟩⟩
theorem q_not (ha : QE X a ta) : QE X (.UnaryOp .Not a pos) (wNotV ta) :=
  PE.imp (pe_not ha) fun σ H Q ⟨O, pa, ρ, Q', r, q, k⟩ => ⟨O, pa, ρ, _, r, q, fun d hd v H' x rp => by
    obtain ⟨c, rfl, rfl, z⟩ := boolOf rp hd
    exact ⟨c, rfl, k _ z _ H' x (.bl _)⟩⟩
@[simp] def wAnd (t u : Wt) : Wt := fun ρ Q => t ρ fun c => if c = true then u ρ Q else Q false
@[simp] def wOr (t u : Wt) : Wt := fun ρ Q => t ρ fun c => if c = true then Q true else u ρ Q
@[simp] def wNot (t : Wt) : Wt := fun ρ Q => t ρ fun c => Q (!c)
theorem qw_and1 (ha : QT X a sa) : QW X (.BoolOp .And [a] pos) sa := pw_and1 ha
theorem qw_or1 (ha : QT X a sa) : QW X (.BoolOp .Or [a] pos) sa := pw_or1 ha
theorem qw_and (ha : QT X a sa) (hb : QW X (.BoolOp .And (b :: rest) pos) sb) : QW X (.BoolOp .And (a :: b :: rest) pos) (wAnd sa sb) :=
  PW.imp (pw_and ha hb) fun σ H Q ⟨O, pa, ρ, Q', r, q, k⟩ => ⟨O, pa, ρ, _, r, q, fun c z H' x => by
    cases c with
    | true => rw [if_pos rfl] at z; exact iteT ⟨O, pa, ρ, Q', r.ext x, z, fun d hd H'' x2 => k d hd H'' (x.trans x2)⟩
    | false => rw [if_neg Bool.false_ne_true] at z; exact iteF (k _ z H' x)⟩
theorem qw_or (ha : QT X a sa) (hb : QW X (.BoolOp .Or (b :: rest) pos) sb) : QW X (.BoolOp .Or (a :: b :: rest) pos) (wOr sa sb) :=
  PW.imp (pw_or ha hb) fun σ H Q ⟨O, pa, ρ, Q', r, q, k⟩ => ⟨O, pa, ρ, _, r, q, fun c z H' x => by
    cases c with
    | true => rw [if_pos rfl] at z; exact iteT (k _ z H' x)
    | false => rw [if_neg Bool.false_ne_true] at z; exact iteF ⟨O, pa, ρ, Q', r.ext x, z, fun d hd H'' x2 => k d hd H'' (x.trans x2)⟩⟩
theorem qt_not (ha : QT X a sa) : QT X (.UnaryOp .Not a pos) (wNot sa) :=
  PT.imp (pt_not ha) fun σ H Q ⟨O, pa, ρ, Q', r, q, k⟩ => ⟨O, pa, ρ, _, r, q, fun c z H' x => k _ z H' x⟩
@[simp] def wIfE (s : Wt) (ta tb : Wx) : Wx := fun ρ Q => s ρ fun c => if c = true then ta ρ Q else tb ρ Q
theorem q_ifExp (hc : QT X c sa) (ha : QE X a ta) (hb : QE X b tb) : QE X (.IfExp c a b pos) (wIfE sa ta tb) :=
  PE.imp (pe_ifExp hc ha hb) fun σ H Q ⟨O, pa, ρ, Q', r, q, k⟩ => ⟨O, pa, ρ, _, r, q, fun c z H' x => by
    cases c with
    | true => rw [if_pos rfl] at z; exact iteT ⟨O, pa, ρ, Q', r.ext x, z, fun d hd v H'' x2 rp => k d hd v H'' (x.trans x2) rp⟩
    | false => rw [if_neg Bool.false_ne_true] at z; exact iteF ⟨O, pa, ρ, Q', r.ext x, z, fun d hd v H'' x2 rp => k d hd v H'' (x.trans x2) rp⟩⟩
/-- a or b < c .. as a test where a value is wanted, and the other way round: by truth values only -/
theorem isTrue_and_val (es : List Expr) (env : Env) : True := trivial
end

/-! ### operators -/
section
variable {X : Cx} {a b c : Expr} {pos : Pos} {ta tb tc : Wx}
theorem OpR.or' {f : Value → Value → Sem Value} {r r' : R2} (h : OpR X f r) (h' : OpR X f r') : OpR X f (fun x y H Q => r x y H Q ∨ r' x y H Q) := OpR.or h h'
@[simp] def gAdd : G2
  | .int i, .int j, Q => Q (.int (i + j))
  | .str x, .str y, Q => x.length + y.length ≤ sizeLine ∧ Q (.str (x ++ y))
  | .tuple xs, .tuple ys, Q => xs.length + ys.length ≤ sizeLine ∧ Q (.tuple (xs ++ ys))
  | .list xs, .list ys, Q => xs.length + ys.length ≤ sizeLine ∧ Q (.list (xs ++ ys))
  | _, _, _ => False
theorem Rep.newT {w : World} {K : PySem.W.Frag} {W : Addr → Prop} {H : Hp} {xs : List V} {ds : List D} {p : Addr} (hW : ∀ b, W b → H b ≠ none) (hp : H p = none) (r : RepA w K W H xs ds) (hl : ds.length ≤ sizeLine) : Rep w K W (upd H p (.tup xs)) (.ref p) (.tuple ds) :=
  .tup (.inl ⟨fun z => hW p z hp, .inl upd_same⟩) (r.mono (fun _ z => .inl z) fun b o _ z => same_new hp b o z) hl
theorem Rep.newL {w : World} {K : PySem.W.Frag} {W : Addr → Prop} {H : Hp} {xs : List V} {ds : List D} {p : Addr} (hW : ∀ b, W b → H b ≠ none) (hp : H p = none) (r : RepA w K W H xs ds) (hl : ds.length ≤ sizeLine) : Rep w K W (upd H p (.lst xs)) (.ref p) (.list ds) :=
  .lst ⟨fun z => hW p z hp, upd_same⟩ (r.mono (fun _ z => .inl z) fun b o _ z => same_new hp b o z) hl
theorem BRep.lstH {w : World} {K : PySem.W.Frag} {W : Addr → Prop} {pa : PAd} {H : Hp} {v : V} {ds : List D} (r : BRep w K pa W H v (.list ds)) : ∃ a xs, v = .ref a ∧ H a = some (.lst xs) ∧ RepA w K W H xs ds ∧ ds.length ≤ sizeLine := by
  rcases r with r | ⟨a, xs, ds', h1, h2, h3, h4, h5, h6⟩ | ⟨a, ks, vs, ds, h1, h2, _⟩
  · cases r with
    | lst h1 h2 h3 => exact ⟨_, _, rfl, h1.2, h2, h3⟩
  · cases h2; exact ⟨a, xs, h1, h4, h5, h6⟩
  · cases h2
/-- a tuple's own place: it is frozen data -/
theorem BRep.tupleRep {w : World} {K : PySem.W.Frag} {W : Addr → Prop} {pa : PAd} {H : Hp} {v : V} {ds : List D} (r : BRep w K pa W H v (.tuple ds)) : Rep w K W H v (.tuple ds) := by
  rcases r with r | ⟨a, xs, ds', h1, h2, h3, h4, h5, h6⟩ | ⟨a, ks, vs, ds, h1, h2, _⟩
  · exact r
  · cases h2
  · cases h2
theorem OpD.cases4 {f : Value → Value → Sem Value} {g : G2} (h1 : ∀ i j, OpD X f (fun x y Q => x = .int i ∧ y = .int j ∧ g x y Q)) : True := trivial
theorem od_add : OpD X (binaryOp .Add) gAdd := by
  intro pins s σ H x y v u W pa d e Q' I rx ry hW hP hx hy hg
  unfold gAdd at hg
  split at hg
  · cases hx.int; cases hy.int
    exact op_add pins s σ H _ _ v u _ I rx ry ⟨_, _, rfl, rfl, _, hg, Ext.refl _ _, .int _⟩
  · cases hx.str; cases hy.str
    exact op_add_str pins s σ H _ _ v u _ I rx ry ⟨_, _, rfl, rfl, hg.1, _, hg.2, Ext.refl _ _, .str _⟩
  · rename_i xs ys
    obtain ⟨a, vs, rfl, h1, h2, h3⟩ := hx.tuple
    obtain ⟨b, us, rfl, h4, h5, h6⟩ := hy.tuple
    refine op_catA pins s σ H _ _ v u _ I rx ry ⟨a, b, vs, us, rfl, rfl, h1, h4, by rw [h2.length, h5.length]; exact hg.1, fun e => ?_, fun n e => ?_, fun n m p hp => ?_⟩
    · rw [h2.nil_iff] at e; subst e
      exact ⟨_, hg.2, Ext.refl _ _, hy.tupleRep⟩
    · rw [h5.nil_iff] at e; subst e
      rw [List.append_nil] at hg
      exact ⟨_, hg.2, Ext.refl _ _, hx.tupleRep⟩
    · exact ⟨_, hg.2, Ext.new hp, Rep.newT hW hp (h2.append h5) (by rw [List.length_append]; exact hg.1)⟩
  · obtain ⟨a, vs, rfl, h1, h2, h3⟩ := hx.lstH
    obtain ⟨b, us, rfl, h4, h5, h6⟩ := hy.lstH
    exact op_cat pins s σ H _ _ v u _ I rx ry ⟨a, b, vs, us, rfl, rfl, h1, h4, by rw [h2.length, h5.length]; exact hg.1, fun p hp => ⟨_, hg.2, Ext.new hp, Rep.newL hW hp (h2.append h5) (by rw [List.length_append]; exact hg.1)⟩⟩
  · exact hg.elim
@[simp] def gInt (C : Int → Int → Prop) (f : Int → Int → D) : G2
  | .int i, .int j, Q => C i j ∧ Q (f i j)
  | _, _, _ => False
theorem OpD.int {f : Value → Value → Sem Value} {C : Int → Int → Prop} {g : Int → Int → V} {k : Int → Int → D} (ho : OpR X f (rI C g)) (hk : ∀ w K W H i j, Rep w K W H (g i j) (k i j)) : OpD X f (gInt C k) :=
  OpD.of ho fun pins s σ H x y W pa d e Q' I hW hP hx hy hg => by
    unfold gInt at hg
    split at hg
    · cases hx.int; cases hy.int
      exact ⟨_, _, rfl, rfl, hg.1, _, hg.2, Ext.refl _ _, hk _ _ _ _ _ _⟩
    · exact hg.elim
theorem OpD.int0 {f : Value → Value → Sem Value} {g : Int → Int → V} {k : Int → Int → D} (ho : OpR X f (rI0 g)) (hk : ∀ w K W H i j, Rep w K W H (g i j) (k i j)) : OpD X f (gInt (fun _ _ => True) k) :=
  OpD.of ho fun pins s σ H x y W pa d e Q' I hW hP hx hy hg => by
    unfold gInt at hg
    split at hg
    · cases hx.int; cases hy.int
      exact ⟨_, _, rfl, rfl, _, hg.2, Ext.refl _ _, hk _ _ _ _ _ _⟩
    · exact hg.elim
@[simp] def gSub : G2 := gInt (fun _ _ => True) fun i j => .int (i - j)
@[simp] def gFdiv : G2 := gInt CDiv fun i j => .int (i / j)
@[simp] def gMod : G2 := gInt (fun _ j => 0 < j) fun i j => .int (i % j)
theorem od_sub : OpD X (binaryOp .Sub) gSub := OpD.int0 op_sub fun _ _ _ _ _ _ => .int _
theorem od_fdiv : OpD X (binaryOp .FloorDiv) gFdiv := OpD.int op_fdiv fun _ _ _ _ _ _ => .int _
theorem od_mod : OpD X (binaryOp .Mod) gMod := OpD.int op_mod fun _ _ _ _ _ _ => .int _
@[simp] def gLt : G2 := gInt (fun _ _ => True) fun i j => .bool (decide (i < j))
@[simp] def gLe : G2 := gInt (fun _ _ => True) fun i j => .bool (decide (i ≤ j))
@[simp] def gGt : G2 := gInt (fun _ _ => True) fun i j => .bool (decide (j < i))
@[simp] def gGe : G2 := gInt (fun _ _ => True) fun i j => .bool (decide (j ≤ i))
theorem od_lt : OpD X (compareOp .Lt) gLt := OpD.int0 op_lt fun _ _ _ _ _ _ => .bl _
theorem od_le : OpD X (compareOp .LtE) gLe := OpD.int0 op_le fun _ _ _ _ _ _ => .bl _
theorem od_gt : OpD X (compareOp .Gt) gGt := OpD.int0 op_gt fun _ _ _ _ _ _ => .bl _
theorem od_ge : OpD X (compareOp .GtE) gGe := OpD.int0 op_ge fun _ _ _ _ _ _ => .bl _

/-! ### == at any depth -/
mutual
theorem Rep.dp {w : World} {K : PySem.W.Frag} {W : Addr → Prop} {H : Hp} : ∀ (d : D) {v : V}, Rep w K W H v d → d.canLay0 = true → Dp K H v d
  | _, _, .non, _ => .non
  | _, _, .bl b, _ => .bl b
  | _, _, .int b, _ => .int b
  | _, _, .str b, _ => .str b
  | .list ds, _, .lst h r z, c => .lst h.sq (RepA.dp ds r (by simpa [PyData.canLay0] using c))
  | .tuple ds, _, .tup h r z, c => .tup h.sq (RepA.dp ds r (by simpa [PyData.canLay0] using c))
  | _, _, .dct h r, c => by simp [PyData.canLay0] at c
  | _, _, .dcs h e r, c => by simp [PyData.canLay0] at c
theorem RepA.dp {w : World} {K : PySem.W.Frag} {W : Addr → Prop} {H : Hp} : ∀ (ds : List D) {vs : List V}, RepA w K W H vs ds → PyData.canLayAll0 ds = true → DpAll K H vs ds
  | [], _, .nil, _ => .nil
  | d :: ds, _, .cons r s, c => by
    simp only [PyData.canLayAll0, Bool.and_eq_true] at c
    exact .cons (Rep.dp d r c.1) (RepA.dp ds s c.2)
end
theorem BRep.dp {w : World} {K : PySem.W.Frag} {W : Addr → Prop} {pa : PAd} {H : Hp} {v : V} {d : D} (r : BRep w K pa W H v d) (c : d.canLay0 = true) : Dp K H v d := by
  rcases r with r | ⟨a, xs, ds', rfl, rfl, h3, h4, h5, h6⟩ | ⟨a, ks, vs, ds, h1, rfl, _⟩
  · exact Rep.dp _ r c
  · exact .lst (.inl (.inl h4)) (RepA.dp _ h5 (by simpa [PyData.canLay0] using c))
  · simp [PyData.canLay0] at c
/-- shallow enough, and of texts that can be -/
@[simp] def sh (d e : D) : Prop := d.canLay0 = true ∧ e.canLay0 = true ∧ min d.depth e.depth ≤ 64
@[simp] def gEq : G2 := fun d e Q => sh d e ∧ Q (.bool (PyData.eqv d e))
@[simp] def gNe : G2 := fun d e Q => sh d e ∧ Q (.bool (!PyData.eqv d e))
theorem od_eq (hu : X.A.units + 64 < cLine) : OpD X (compareOp .Eq) gEq := by
  intro pins s σ H x y v u W pa d e Q' I rx ry hW hP hx hy hg
  obtain ⟨⟨c1, c2, c3⟩, q⟩ := hg
  obtain ⟨as, r1⟩ := Dp.reads I d x v (hx.dp c1) rx
  obtain ⟨bs, r2⟩ := Dp.reads I e y u (hy.dp c2) ry
  exact SeqAt.compareEq_reads r1 r2 c1 c2 (by omega) ⟨.bl _, H, I, rfl, _, q, Ext.refl _ _, .bl _⟩
theorem od_ne (hu : X.A.units + 64 < cLine) : OpD X (compareOp .NotEq) gNe := by
  intro pins s σ H x y v u W pa d e Q' I rx ry hW hP hx hy hg
  obtain ⟨⟨c1, c2, c3⟩, q⟩ := hg
  obtain ⟨as, r1⟩ := Dp.reads I d x v (hx.dp c1) rx
  obtain ⟨bs, r2⟩ := Dp.reads I e y u (hy.dp c2) ry
  exact SeqAt.compareNe_reads r1 r2 c1 c2 (by omega) ⟨.bl _, H, I, rfl, _, q, Ext.refl _ _, .bl _⟩
/-- is None -/
@[simp] def isNoneD : D → Bool
  | .none => true
  | _ => false
@[simp] def gIsN : G2 := fun d e Q => e = .none ∧ Q (.bool (isNoneD d))
@[simp] def gNotN : G2 := fun d e Q => e = .none ∧ Q (.bool (!isNoneD d))
theorem BRep.isN {w : World} {K : PySem.W.Frag} {W : Addr → Prop} {pa : PAd} {H : Hp} {v : V} {d : D} (r : BRep w K pa W H v d) : decide (v = .non) = isNoneD d := by
  rcases r with r | ⟨a, xs, ds', rfl, rfl, h3, h4, h5, h6⟩ | ⟨a, ks, vs, ds, rfl, rfl, _⟩
  · cases r <;> simp [isNoneD]
  · simp [isNoneD]
  · simp [isNoneD]
theorem od_isN : OpD X (compareOp .Is) gIsN := OpD.of op_isN fun pins s σ H x y W pa d e Q' I hW hP hx hy hg => by
  obtain ⟨rfl, q⟩ := hg
  exact ⟨hy.none, _, q, Ext.refl _ _, by rw [hx.isN]; exact .bl _⟩
theorem od_notN : OpD X (compareOp .IsNot) gNotN := OpD.of op_notN fun pins s σ H x y W pa d e Q' I hW hP hx hy hg => by
  obtain ⟨rfl, q⟩ := hg
  exact ⟨hy.none, _, q, Ext.refl _ _, by rw [hx.isN]; exact .bl _⟩

/-! ### chains -/
@[simp] def wChain (g g' : G2) (ta tb tc : Wx) : Wx := fun ρ Q => ta ρ fun x => tb ρ fun y => g x y (onB fun k => if k = true then tc ρ fun z => g' y z Q else Q (.bool false))
@[simp] def gMul : G2
  | .int i, .int j, Q => CMul i j ∧ Q (.int (i * j))
  | .list xs, .int k, Q => xs.length * k.toNat ≤ sizeLine ∧ -(2 ^ 63) ≤ k ∧ k < 2 ^ 63 ∧ Q (.list (List.replicate k.toNat xs).flatten)
  | _, _, _ => False
theorem od_mul : OpD X (binaryOp .Mult) gMul := by
  intro pins s σ H x y v u W pa d e Q' I rx ry hW hP hx hy hg
  unfold gMul at hg
  split at hg
  · cases hx.int; cases hy.int
    exact op_mul pins s σ H _ _ v u _ I rx ry ⟨_, _, rfl, rfl, hg.1, _, hg.2, Ext.refl _ _, .int _⟩
  · rename_i xs k
    obtain ⟨a, vs, rfl, h1, h2, h3⟩ := hx.lstH
    cases hy.int
    refine op_rep pins s σ H _ _ v u _ I rx ry ⟨a, k, vs, rfl, rfl, h1, hg.2.1, hg.2.2.1, by rw [h2.length]; exact hg.1, fun p hp => ⟨_, hg.2.2.2, Ext.new hp, Rep.newL hW hp (h2.replicate _) ?_⟩⟩
    rw [PyProof.Rows.lm_len_rep_flat, Nat.mul_comm]; exact hg.1
  · exact hg.elim
end
end DL

namespace DL
open PySem PySem.Spec L2
open PyProof.Rows hiding St

section
variable {X : Cx} {a b c e : Expr} {es : List Expr} {pos p : Pos} {ta tb tc t : Wx}
/-- run an expression that is read at once, keeping what is known -/
theorem runB (ha : QB X a ta) {O : Addr → Prop} {pa : PAd} {ρ : Rho} {pins : List (Addr × Obj)} {s : Shared} {σ : St} {H : Hp} {Q' : D → Prop} (I : Inv X pins σ H s) (r : ER X.w X.K O pa ρ σ H) (q : ta ρ Q') :
    wpAny (model X.prog X.w) X.A (eval a X.env) (EP X pins σ fun x H1 => ∃ d, Q' d ∧ Ext pa H H1 ∧ BRep X.w X.K pa (Ow O pa ρ σ) H1 x d) X.xe s :=
  ha.run pins s σ H _ I ⟨O, pa, ρ, Q', r, q, fun d hd v H' x rp => ⟨d, hd, x, rp⟩⟩

/-! ### a < b < c -/
theorem q_chain {op op' : CmpOp} {g g' : G2} (ho : OpD X (compareOp op) g) (ho' : OpD X (compareOp op') g') (ha : QB X a ta) (hb : QB X b tb) (hc : QB X c tc)
    (hm : lastMarks [op, op'] [b, c] = false := by with_unfolding_all rfl) : QE X (.Compare a [op, op'] [b, c] pos) (wChain g g' ta tb tc) := by
  refine ⟨fun pins s σ H Q I ⟨O, pa, ρ, Q', r, q, k⟩ => ?_⟩
  refine Compare_chain (thn (runB ha I r q) fun v s1 ⟨x, H1, I1, r1, d, q1, e1, b1⟩ => chain_link (thn (runB hb I1 (r.ext e1) q1) fun u s2 ⟨y, H2, I2, r2, d2, q2, e2, b2⟩ =>
    thn (ho pins s2 σ H2 x y v u _ pa d d2 _ I2 r1 r2 ((r.ext e1).ext e2).domW ow_pa (b1.ext ow_pa e2) b2 q2) fun cv s3 ⟨z, H3, I3, r3, d3, q3, e3, b3⟩ => ?_)) hm
  obtain ⟨kk, rfl, rfl, q4⟩ := boolOf b3 q3
  cases r3
  refine wpAny_truthy_bool ?_
  cases kk with
  | false => rw [if_neg Bool.false_ne_true] at q4; exact ite_ff ⟨.bl false, H3, I3, rfl, k _ q4 _ _ (e1.trans (e2.trans e3)) (.bl _)⟩
  | true =>
    rw [if_pos rfl] at q4
    refine ite_tt (chain_last (thn (runB hc I3 (((r.ext e1).ext e2).ext e3) q4) fun w' s4 ⟨z', H4, I4, r4, d4, q5, e4, b4⟩ => ?_))
    refine thn (ho' pins s4 σ H4 y z' u w' _ pa d2 d4 Q' I4 r2 r4 ((((r.ext e1).ext e2).ext e3).ext e4).domW ow_pa ((b2.ext ow_pa e3).ext ow_pa e4) b4 q5) fun cv s5 ⟨z2, H5, I5, r5, d5, q6, e5, b5⟩ => ?_
    exact ⟨z2, H5, I5, r5, k d5 q6 z2 H5 (e1.trans (e2.trans (e3.trans (e4.trans e5)))) b5⟩
theorem qt_chain {op op' : CmpOp} {g g' : G2} (ho : OpD X (compareOp op) g) (ho' : OpD X (compareOp op') g') (ha : QB X a ta) (hb : QB X b tb) (hc : QB X c tc)
    (hm : lastMarks [op, op'] [b, c] = false := by with_unfolding_all rfl) : QT X (.Compare a [op, op'] [b, c] pos) (wT (wChain g g' ta tb tc)) := by
  refine ⟨fun pins s σ H Q I ⟨O, pa, ρ, Q', r, q, k⟩ => ?_⟩
  refine isTrue_chain (thn (runB ha I r q) fun v s1 ⟨x, H1, I1, r1, d, q1, e1, b1⟩ => test_link (thn (runB hb I1 (r.ext e1) q1) fun u s2 ⟨y, H2, I2, r2, d2, q2, e2, b2⟩ =>
    thn (ho pins s2 σ H2 x y v u _ pa d d2 _ I2 r1 r2 ((r.ext e1).ext e2).domW ow_pa (b1.ext ow_pa e2) b2 q2) fun cv s3 ⟨z, H3, I3, r3, d3, q3, e3, b3⟩ => ?_)) hm
  obtain ⟨kk, rfl, rfl, q4⟩ := boolOf b3 q3
  cases r3
  refine wpAny_truthy_bool ?_
  cases kk with
  | false => rw [if_neg Bool.false_ne_true] at q4; exact ite_ff ⟨H3, I3, k _ q4 _ (e1.trans (e2.trans e3))⟩
  | true =>
    rw [if_pos rfl] at q4
    refine ite_tt (test_last (thn (runB hc I3 (((r.ext e1).ext e2).ext e3) q4) fun w' s4 ⟨z', H4, I4, r4, d4, q5, e4, b4⟩ => ?_))
    refine thn (ho' pins s4 σ H4 y z' u w' _ pa d2 d4 (onB Q') I4 r2 r4 ((((r.ext e1).ext e2).ext e3).ext e4).domW ow_pa ((b2.ext ow_pa e3).ext ow_pa e4) b4 q5) fun cv s5 ⟨z2, H5, I5, r5, d5, q6, e5, b5⟩ => ?_
    obtain ⟨k2, rfl, rfl, q7⟩ := boolOf b5 q6
    cases r5
    exact wpAny_truthy_bool ⟨H5, I5, k k2 q7 H5 (e1.trans (e2.trans (e3.trans (e4.trans e5))))⟩

/-! ### argument lists -/
@[simp] def waNil : Wa := fun _ Q => Q []
@[simp] def waCons (t : Wx) (r : Wa) : Wa := fun ρ Q => t ρ fun d => r ρ fun ds => Q (d :: ds)
theorem qa_nil : QA X [] waNil := PA.imp pa_nil fun σ H Q ⟨O, pa, ρ, Q', r, q, k⟩ => k [] q [] H (Ext.refl _ _) .nil
theorem qa_cons {r : Wa} (ha : QE X e t) (hr : QA X es r) (hs : starEach (e :: es) X.env = (false, eval e X.env) :: starEach es X.env := by rfl) : QA X (e :: es) (waCons t r) :=
  PA.imp (pa_cons ha hr hs) fun σ H Q ⟨O, pa, ρ, Q', r, q, k⟩ => ⟨O, pa, ρ, _, r, q, fun d hd v H1 x rp => ⟨O, pa, ρ, _, r.ext x, hd, fun ds hds vs H2 x2 rps => k _ hds _ _ (x.trans x2) (.cons (rp.ext ow_pa x2) rps)⟩⟩
abbrev BA (w : World) (K : PySem.W.Frag) (pa : PAd) (W : Addr → Prop) (H : Hp) : List V → List D → Prop := Paired (BRep w K pa W H)
def tABr (w : World) (K : PySem.W.Frag) (t : Wa) : TA := fun σ H Q => ∃ O pa ρ Q', ER w K O pa ρ σ H ∧ t ρ Q' ∧ ∀ ds, Q' ds → ∀ vs H', Ext pa H H' → BA w K pa (Ow O pa ρ σ) H' vs ds → Q vs H'
abbrev QAB (X : Cx) (es : List Expr) (t : Wa) : Prop := PA X es (tABr X.w X.K t)
theorem qab_nil : QAB X [] waNil := PA.imp pa_nil fun σ H Q ⟨O, pa, ρ, Q', r, q, k⟩ => k [] q [] H (Ext.refl _ _) .nil
theorem qab_cons {r : Wa} (ha : QB X e t) (hr : QAB X es r) (hs : starEach (e :: es) X.env = (false, eval e X.env) :: starEach es X.env := by rfl) : QAB X (e :: es) (waCons t r) :=
  PA.imp (pa_cons ha hr hs) fun σ H Q ⟨O, pa, ρ, Q', r, q, k⟩ => ⟨O, pa, ρ, _, r, q, fun d hd v H1 x rp => ⟨O, pa, ρ, _, r.ext x, hd, fun ds hds vs H2 x2 rps => k _ hds _ _ (x.trans x2) (.cons (rp.ext ow_pa x2) rps)⟩⟩

/-! ### displays -/
@[simp] def wTup (t : Wa) : Wx := fun ρ Q => t ρ fun ds => ds.length ≤ 1000 ∧ Q (.tuple ds)
@[simp] def wLst (t : Wa) : Wx := fun ρ Q => t ρ fun ds => ds.length ≤ 1000 ∧ Q (.list ds)
theorem le1000 {n : Nat} (h : n ≤ 1000) : n ≤ sizeLine := by rw [sizeLine_eq]; omega
theorem q_tup {x1} {t : Wa} (h : QA X es t) : QE X (.Tuple es x1 pos) (wTup t) :=
  PE.imp (pe_tup h) fun σ H Q ⟨O, pa, ρ, Q', r, q, k⟩ => ⟨O, pa, ρ, _, r, q, fun ds hds vs H1 x rp => ⟨by rw [rp.length]; exact le1000 hds.1, fun p hp => k _ hds.2 _ _ (x.trans (Ext.new hp)) (Rep.newT (r.ext x).domW hp rp (le1000 hds.1))⟩⟩
theorem q_lst {t : Wa} (h : QA X es t) : QE X (.List es pos) (wLst t) :=
  PE.imp (pe_lst h) fun σ H Q ⟨O, pa, ρ, Q', r, q, k⟩ => ⟨O, pa, ρ, _, r, q, fun ds hds vs H1 x rp => ⟨by rw [rp.length]; exact le1000 hds.1, fun p hp => k _ hds.2 _ _ (x.trans (Ext.new hp)) (Rep.newL (r.ext x).domW hp rp (le1000 hds.1))⟩⟩

/-! ### built-ins by their names -/
abbrev GC := List D → (D → Prop) → Prop
def CallD (X : Cx) (f : Value) (g : GC) : Prop :=
  ∀ (pins : List (Addr × Obj)) (s : Shared) (σ : St) (H : Hp) (vs : List V) (us : List Value) (W : Addr → Prop) (pa : PAd) (ds : List D) (Q' : D → Prop), Inv X pins σ H s → Vals vs us →
    (∀ b, W b → H b ≠ none) → (∀ b, isP pa b → W b) → BA X.w X.K pa W H vs ds → g ds Q' → wpAny (model X.prog X.w) X.A (call f us) (EP X pins σ fun z H' => ∃ d', Q' d' ∧ Ext pa H H' ∧ Rep X.w X.K W H' z d') X.xe s
theorem CallD.of {f : Value} {r : List V → Hp → VK → Prop} {g : GC} (ho : CallR X f r)
    (h : ∀ (pins : List (Addr × Obj)) (s : Shared) (σ : St) (H : Hp) (vs : List V) (W : Addr → Prop) (pa : PAd) (ds : List D) (Q' : D → Prop), Inv X pins σ H s → (∀ b, W b → H b ≠ none) → (∀ b, isP pa b → W b) → BA X.w X.K pa W H vs ds → g ds Q' →
      r vs H fun z H' => ∃ d', Q' d' ∧ Ext pa H H' ∧ Rep X.w X.K W H' z d') : CallD X f g :=
  fun pins s σ H vs us W pa ds Q' I rv hW hP hb hg => ho pins s σ H vs us _ I rv (h pins s σ H vs W pa ds Q' I hW hP hb hg)
@[simp] def wCB (g : GC) (t : Wa) : Wx := fun ρ Q => t ρ fun ds => g ds Q
theorem q_callB {x : Str} {id : String} {g : GC} {t : Wa} (hc : CallD X (.builtin id) g) (hg : Gl X x) (hm : X.mg x = none) (hv : bootBuiltins x = some (.builtin id)) (ha : QAB X (e :: es) t) (hn : x ≠ "__name__" := by decide) (hdb : (x == ("__debug__" : Str)) = false := by decide)
    (he : starEach (e :: es) X.env = (false, eval e X.env) :: starEach es X.env := by rfl) (hpl : (backTo pos (starEach es X.env)).any (·.1) = false := by rfl) : QE X (.Call (.Name x p) (e :: es) [] pos) (wCB g t) := by
  refine ⟨fun pins s σ H Q I ⟨O, pa, ρ, Q', r, q, k⟩ => ?_⟩
  refine wpAny_Call_Name_kw (ld_blt I hg hm hv ?_ hn hdb)
  refine PyProof.Rows.callWith_builtin1 (thn (ha.run pos pins s σ H (fun vs H1 => ∃ ds, g ds Q' ∧ Ext pa H H1 ∧ BA X.w X.K pa (Ow O pa ρ σ) H1 vs ds) I ⟨O, pa, ρ, _, r, q, fun ds hds vs H1 x rp => ⟨ds, hds, x, rp⟩⟩) fun us s1 ⟨vs, H1, I1, r1, ds, q1, e1, b1⟩ => ?_) he hpl
  exact thn (hc pins s1 σ H1 vs us _ pa ds Q' I1 r1 (r.ext e1).domW ow_pa b1 q1) fun z s2 ⟨zv, H2, I2, r2, d2, q2, e2, b2⟩ => ⟨zv, H2, I2, r2, k d2 q2 zv H2 (e1.trans e2) b2⟩
theorem q_callTy {x : Str} {T : String} {g : GC} {t : Wa} (hc : CallD X (.type T) g) (hg : Gl X x) (hm : X.mg x = none) (hv : bootBuiltins x = some (.type T)) (ha : QAB X (e :: es) t) (hn : x ≠ "__name__" := by decide) (hdb : (x == ("__debug__" : Str)) = false := by decide)
    (he : starEach (e :: es) X.env = (false, eval e X.env) :: starEach es X.env := by rfl) (hpl : (backTo pos (starEach es X.env)).any (·.1) = false := by rfl) : QE X (.Call (.Name x p) (e :: es) [] pos) (wCB g t) := by
  refine ⟨fun pins s σ H Q I ⟨O, pa, ρ, Q', r, q, k⟩ => ?_⟩
  refine wpAny_Call_Name_kw (ld_blt I hg hm hv ?_ hn hdb)
  refine PyProof.Rows.callWith_type1 (thn (ha.run pos pins s σ H (fun vs H1 => ∃ ds, g ds Q' ∧ Ext pa H H1 ∧ BA X.w X.K pa (Ow O pa ρ σ) H1 vs ds) I ⟨O, pa, ρ, _, r, q, fun ds hds vs H1 x rp => ⟨ds, hds, x, rp⟩⟩) fun us s1 ⟨vs, H1, I1, r1, ds, q1, e1, b1⟩ => ?_) he hpl
  exact thn (hc pins s1 σ H1 vs us _ pa ds Q' I1 r1 (r.ext e1).domW ow_pa b1 q1) fun z s2 ⟨zv, H2, I2, r2, d2, q2, e2, b2⟩ => ⟨zv, H2, I2, r2, k d2 q2 zv H2 (e1.trans e2) b2⟩
theorem BA.one {w : World} {K : PySem.W.Frag} {pa : PAd} {W : Addr → Prop} {H : Hp} {vs : List V} {d : D} (h : BA w K pa W H vs [d]) : ∃ v, vs = [v] ∧ BRep w K pa W H v d := by
  cases h with
  | cons h1 h2 => cases h2; exact ⟨_, rfl, h1⟩
theorem BA.two {w : World} {K : PySem.W.Frag} {pa : PAd} {W : Addr → Prop} {H : Hp} {vs : List V} {d e : D} (h : BA w K pa W H vs [d, e]) : ∃ v u, vs = [v, u] ∧ BRep w K pa W H v d ∧ BRep w K pa W H u e := by
  cases h with
  | cons h1 h2 =>
    obtain ⟨u, rfl, h3⟩ := BA.one h2
    exact ⟨_, _, rfl, h1, h3⟩
@[simp] def gLen : GC
  | [.str x], Q => x.length ≤ sizeLine ∧ Q (.int x.length)
  | [.list xs], Q => Q (.int xs.length)
  | [.tuple xs], Q => Q (.int xs.length)
  | _, _ => False
theorem cd_len : CallD X (.builtin "len") gLen := CallD.of call_len fun pins s σ H vs W pa ds Q' I hW hP hb hg => by
  unfold gLen at hg
  split at hg
  · obtain ⟨v, rfl, b⟩ := hb.one
    cases b.str
    exact ⟨_, _, rfl, ⟨hg.1, rfl⟩, _, hg.2, Ext.refl _ _, .int _⟩
  · obtain ⟨v, rfl, b⟩ := hb.one
    obtain ⟨a, xs, rfl, h1, h2, h3⟩ := b.list
    exact ⟨_, _, rfl, .inl ⟨xs, h1, rfl⟩, _, hg, Ext.refl _ _, by rw [h2.length]; exact .int _⟩
  · obtain ⟨v, rfl, b⟩ := hb.one
    obtain ⟨a, xs, rfl, h1, h2, h3⟩ := b.tuple
    exact ⟨_, _, rfl, .inr ⟨xs, h1, rfl⟩, _, hg, Ext.refl _ _, by rw [h2.length]; exact .int _⟩
  · exact hg.elim
@[simp] def gMax2 : GC
  | [.int i, .int j], Q => Q (.int (if j > i then j else i))
  | _, _ => False
@[simp] def gMin2 : GC
  | [.int i, .int j], Q => Q (.int (if j < i then j else i))
  | _, _ => False
theorem cd_max2 (hc : X.calm = true := by rfl) : CallD X (.builtin "max") gMax2 := CallD.of (call_max2 hc) fun pins s σ H vs W pa ds Q' I hW hP hb hg => by
  unfold gMax2 at hg
  split at hg
  · obtain ⟨v, u, rfl, b, b'⟩ := hb.two
    cases b.int; cases b'.int
    exact ⟨_, _, rfl, _, hg, Ext.refl _ _, .int _⟩
  · exact hg.elim
theorem cd_min2 (hc : X.calm = true := by rfl) : CallD X (.builtin "min") gMin2 := CallD.of (call_min2 hc) fun pins s σ H vs W pa ds Q' I hW hP hb hg => by
  unfold gMin2 at hg
  split at hg
  · obtain ⟨v, u, rfl, b, b'⟩ := hb.two
    cases b.int; cases b'.int
    exact ⟨_, _, rfl, _, hg, Ext.refl _ _, .int _⟩
  · exact hg.elim
@[simp] def gIntOf : GC
  | [.int i], Q => Q (.int i)
  | [.bool k], Q => Q (.int (if k then 1 else 0))
  | _, _ => False
theorem cd_int : CallD X (.type "int") gIntOf := CallD.of call_int1 fun pins s σ H vs W pa ds Q' I hW hP hb hg => by
  unfold gIntOf at hg
  split at hg
  · obtain ⟨v, rfl, b⟩ := hb.one
    cases b.int
    exact .inl ⟨_, rfl, _, hg, Ext.refl _ _, .int _⟩
  · obtain ⟨v, rfl, b⟩ := hb.one
    cases b.bool
    exact .inr ⟨_, rfl, _, hg, Ext.refl _ _, .int _⟩
  · exact hg.elim
@[simp] def gTupOf : GC
  | [.list xs], Q => Q (.tuple xs)
  | [.tuple xs], Q => Q (.tuple xs)
  | _, _ => False
@[simp] def gLstOf : GC
  | [.list xs], Q => Q (.list xs)
  | [.tuple xs], Q => Q (.list xs)
  | _, _ => False
theorem cd_tupOf : CallD X (.type "tuple") gTupOf := CallD.of call_tuple_of fun pins s σ H vs W pa ds Q' I hW hP hb hg => by
  unfold gTupOf at hg
  split at hg
  · obtain ⟨v, rfl, b⟩ := hb.one
    obtain ⟨a, xs, rfl, h1, h2, h3⟩ := b.list
    exact ⟨_, _, rfl, .inl ⟨h1, fun l hl => ⟨_, hg, Ext.new hl, Rep.newT hW hl h2 h3⟩⟩⟩
  · obtain ⟨v, rfl, b⟩ := hb.one
    obtain ⟨a, xs, rfl, h1, h2, h3⟩ := b.tuple
    exact ⟨_, _, rfl, .inr ⟨h1, _, hg, Ext.refl _ _, b.tupleRep⟩⟩
  · exact hg.elim
theorem cd_lstOf : CallD X (.type "list") gLstOf := CallD.of call_list_of fun pins s σ H vs W pa ds Q' I hW hP hb hg => by
  unfold gLstOf at hg
  split at hg
  · obtain ⟨v, rfl, b⟩ := hb.one
    obtain ⟨a, xs, rfl, h1, h2, h3⟩ := b.list
    exact ⟨_, _, rfl, .inl h1, fun l hl => ⟨_, hg, Ext.new hl, Rep.newL hW hl h2 h3⟩⟩
  · obtain ⟨v, rfl, b⟩ := hb.one
    obtain ⟨a, xs, rfl, h1, h2, h3⟩ := b.tuple
    exact ⟨_, _, rfl, .inr h1, fun l hl => ⟨_, hg, Ext.new hl, Rep.newL hW hl h2 h3⟩⟩
  · exact hg.elim
/-- lists of ints, of truth values -/
def intsD : List D → Option (List Int)
  | [] => some []
  | .int i :: ds => (intsD ds).map (i :: ·)
  | _ => none
def boolsD : List D → Option (List Bool)
  | [] => some []
  | .bool i :: ds => (boolsD ds).map (i :: ·)
  | _ => none
theorem intsD_rep {w : World} {K : PySem.W.Frag} {W : Addr → Prop} {H : Hp} : ∀ {ds : List D} {vs : List V} {ns : List Int}, RepA w K W H vs ds → intsD ds = some ns → vs = ns.map V.int
  | [], _, ns, h, e => by
    cases h
    simp [intsD] at e
    subst e
    rfl
  | d :: ds, _, ns, h, e => by
    cases h with
    | cons h1 h2 =>
      cases d with
      | int i =>
        simp only [intsD, Option.map_eq_some_iff] at e
        obtain ⟨m, e1, rfl⟩ := e
        cases h1
        rw [intsD_rep h2 e1]
        rfl
      | _ => simp [intsD] at e
theorem boolsD_rep {w : World} {K : PySem.W.Frag} {W : Addr → Prop} {H : Hp} : ∀ {ds : List D} {vs : List V} {ns : List Bool}, RepA w K W H vs ds → boolsD ds = some ns → vs = ns.map V.bl
  | [], _, ns, h, e => by
    cases h
    simp [boolsD] at e
    subst e
    rfl
  | d :: ds, _, ns, h, e => by
    cases h with
    | cons h1 h2 =>
      cases d with
      | bool i =>
        simp only [boolsD, Option.map_eq_some_iff] at e
        obtain ⟨m, e1, rfl⟩ := e
        cases h1
        rw [boolsD_rep h2 e1]
        rfl
      | _ => simp [boolsD] at e
theorem intsD_map (ns : List Int) : intsD (ns.map .int) = some ns := by
  induction ns with
  | nil => rfl
  | cons n ns ih => simp [intsD, ih]
theorem boolsD_map (ns : List Bool) : boolsD (ns.map .bool) = some ns := by
  induction ns with
  | nil => rfl
  | cons n ns ih => simp [boolsD, ih]
@[simp] def gSum : GC
  | [.list xs], Q => ∃ ns, intsD xs = some ns ∧ Q (.int ns.sum)
  | _, _ => False
theorem cd_sum (hc : X.calm = true := by rfl) : CallD X (.builtin "sum") gSum := CallD.of (cr_sum hc) fun pins s σ H vs W pa ds Q' I hW hP hb hg => by
  unfold gSum at hg
  split at hg
  · obtain ⟨ns, hg, q⟩ := hg
    obtain ⟨v, rfl, b⟩ := hb.one
    obtain ⟨a, xs, rfl, h1, h2, h3⟩ := b.list
    have := intsD_rep h2 hg
    subst this
    exact ⟨_, _, rfl, h1, _, q, Ext.refl _ _, .int _⟩
  · exact hg.elim
@[simp] def gAll : GC
  | [.list xs], Q => ∃ ns, boolsD xs = some ns ∧ Q (.bool (ns.all id))
  | _, _ => False
@[simp] def gAny : GC
  | [.list xs], Q => ∃ ns, boolsD xs = some ns ∧ Q (.bool (ns.any id))
  | _, _ => False
theorem cd_all (hc : X.calm = true := by rfl) : CallD X (.builtin "all") gAll := CallD.of (cr_all hc) fun pins s σ H vs W pa ds Q' I hW hP hb hg => by
  unfold gAll at hg
  split at hg
  · obtain ⟨ns, hg, q⟩ := hg
    obtain ⟨v, rfl, b⟩ := hb.one
    obtain ⟨a, xs, rfl, h1, h2, h3⟩ := b.list
    have := boolsD_rep h2 hg
    subst this
    exact ⟨_, _, rfl, h1, _, q, Ext.refl _ _, .bl _⟩
  · exact hg.elim
theorem cd_any (hc : X.calm = true := by rfl) : CallD X (.builtin "any") gAny := CallD.of (cr_any hc) fun pins s σ H vs W pa ds Q' I hW hP hb hg => by
  unfold gAny at hg
  split at hg
  · obtain ⟨ns, hg, q⟩ := hg
    obtain ⟨v, rfl, b⟩ := hb.one
    obtain ⟨a, xs, rfl, h1, h2, h3⟩ := b.list
    have := boolsD_rep h2 hg
    subst this
    exact ⟨_, _, rfl, h1, _, q, Ext.refl _ _, .bl _⟩
  · exact hg.elim

/-! ### subscripts -/
@[simp] def gIx : G2
  | .list xs, .int i, Q => ∃ d, atI xs i = some d ∧ Q d
  | .tuple xs, .int i, Q => ∃ d, atI xs i = some d ∧ Q d
  | .str z, .int i, Q => z.length ≤ sizeLine ∧ ∃ c, atI z.cps.toList i = some c ∧ Q (.str ⟨#[c]⟩)
  | _, _, _ => False
theorem RepA.atI {w : World} {K : PySem.W.Frag} {W : Addr → Prop} {H : Hp} {vs : List V} {ds : List D} {i : Int} {d : D} (r : RepA w K W H vs ds) (e : atI ds i = some d) : ∃ v, L2.atI vs i = some v ∧ Rep w K W H v d := by
  unfold L2.atI at e ⊢
  rw [r.length]
  cases q : ixN ds.length i with
  | none => rw [q] at e; cases e
  | some j =>
    rw [q] at e
    exact r.get (show ds[j]? = some d from e)
/-- what a subscript gives is frozen, whatever it is taken from -/
theorem q_ix (ha : QB X a ta) (hb : QB X b tb) (hs : PlainIx b := by exact fun _ _ => rfl) : QE X (.Subscript a b pos) (w2 gIx ta tb) := by
  refine PE.imp (pe_ix ix_seq ha hb hs) fun σ H Q ⟨O, pa, ρ, Q', r, q, k⟩ => ⟨O, pa, ρ, _, r, q, fun d hd v H1 x rp => ⟨O, pa, ρ, _, r.ext x, hd, fun d2 hd2 v2 H2 x2 rp2 => ?_⟩⟩
  have rp' := rp.ext ow_pa x2
  unfold gIx at hd2
  split at hd2
  · obtain ⟨d3, e3, q3⟩ := hd2
    obtain ⟨a, xs, rfl, h1, h2, h3⟩ := rp'.list
    obtain ⟨u, h4, h5⟩ := h2.atI e3
    cases rp2.int
    exact .inl ⟨a, xs, _, u, rfl, rfl, h1, h4, k _ q3 u H2 (x.trans x2) h5⟩
  · obtain ⟨d3, e3, q3⟩ := hd2
    obtain ⟨a, xs, rfl, h1, h2, h3⟩ := rp'.tuple
    obtain ⟨u, h4, h5⟩ := h2.atI e3
    cases rp2.int
    exact .inr (.inl ⟨a, xs, _, u, rfl, rfl, h1, h4, k _ q3 u H2 (x.trans x2) h5⟩)
  · obtain ⟨z, c, e3, q3⟩ := hd2
    cases rp'.str
    cases rp2.int
    exact .inr (.inr ⟨_, _, c, rfl, rfl, z, e3, k _ q3 _ H2 (x.trans x2) (.str _)⟩)
  · exact hd2.elim

/-! ### slices -/
def cutD {α : Type} (xs : List α) (lo hi : Option Int) : List α := (xs.drop (HT.sIx xs.length 0 lo)).take (HT.sIx xs.length xs.length hi - HT.sIx xs.length 0 lo)
abbrev Wo := Rho → (Option Int → Prop) → Prop
def tO (w : World) (K : PySem.W.Frag) (t : Wo) : TO := fun σ H Q => ∃ O pa ρ Q', ER w K O pa ρ σ H ∧ t ρ Q' ∧ ∀ o, Q' o → ∀ H', Ext pa H H' → Q o H'
abbrev QO (X : Cx) (e : Option Expr) (t : Wo) : Prop := PO X e (tO X.w X.K t)
@[simp] def onI (Q : Int → Prop) : D → Prop
  | .int i => Q i
  | _ => False
theorem onI_iff {Q : Int → Prop} {d : D} (h : onI Q d) : ∃ i, d = .int i ∧ Q i := by
  cases d with
  | int i => exact ⟨i, rfl, h⟩
  | _ => exact h.elim
@[simp] def woNone : Wo := fun _ Q => Q none
@[simp] def woSome (t : Wx) : Wo := fun ρ Q => t ρ (onI fun i => Q (some i))
theorem PO.imp {o : Option Expr} {t t' : TO} (h : PO X o t) (i : ∀ σ H Q, t' σ H Q → t σ H Q) : PO X o t' := ⟨fun pins s σ H Q I q => h.run pins s σ H Q I (i σ H Q q)⟩
theorem qo_none : QO X none woNone := PO.imp po_none fun σ H Q ⟨O, pa, ρ, Q', r, q, k⟩ => k _ q H (Ext.refl _ _)
theorem qo_some (h : QB X e t) : QO X (some e) (woSome t) := PO.imp (po_some h) fun σ H Q ⟨O, pa, ρ, Q', r, q, k⟩ => ⟨O, pa, ρ, _, r, q, fun d hd v H1 x rp => by
  obtain ⟨i, rfl, q⟩ := onI_iff hd
  cases rp.int
  exact ⟨i, rfl, k _ q H1 x⟩⟩
theorem RepA.cut {w : World} {K : PySem.W.Frag} {W : Addr → Prop} {H : Hp} {vs : List V} {ds : List D} {lo hi : Option Int} (r : RepA w K W H vs ds) : RepA w K W H (cutV vs lo hi) (cutD ds lo hi) := by
  unfold cutV cutD
  rw [r.length]
  exact (r.drop _).take _
theorem cutD_le {α : Type} (xs : List α) (lo hi : Option Int) : (cutD xs lo hi).length ≤ xs.length := by
  unfold cutD
  rw [List.length_take, List.length_drop]
  omega
theorem cutD_whole {α : Type} {xs : List α} {lo hi : Option Int} (h : HT.sIx xs.length 0 lo = 0 ∧ HT.sIx xs.length xs.length hi = xs.length) : cutD xs lo hi = xs := by
  unfold cutD
  rw [h.1, h.2]
  simp
@[simp] def gSl : D → Option Int → Option Int → (D → Prop) → Prop
  | .list xs, lo, hi, Q => Q (.list (cutD xs lo hi))
  | .tuple xs, lo, hi, Q => Q (.tuple (cutD xs lo hi))
  | .str z, lo, hi, Q => z.length ≤ sizeLine ∧ Q (.str (cutS z lo hi))
  | _, _, _, _ => False
@[simp] def wSl (t : Wx) (lo hi : Wo) : Wx := fun ρ Q => t ρ fun d => lo ρ fun l => hi ρ fun u => gSl d l u Q
theorem q_slice {lo hi : Option Expr} {tl th : Wo} {p2 : Pos} (ha : QB X a ta) (hl : QO X lo tl) (hh : QO X hi th) : QE X (.Subscript a (.Slice lo hi none p2) pos) (wSl ta tl th) := by
  refine PE.imp (pe_slice (SlR.or sl_list (SlR.or sl_tupA sl_str)) ha hl hh) fun σ H Q ⟨O, pa, ρ, Q', r, q, k⟩ => ⟨O, pa, ρ, _, r, q, fun d hd v H1 x rp => ⟨O, pa, ρ, _, r.ext x, hd, fun l hl H2 x2 => ⟨O, pa, ρ, _, (r.ext x).ext x2, hl, fun u hu H3 x3 => ?_⟩⟩⟩
  have rp' := (rp.ext ow_pa x2).ext ow_pa x3
  have dW := (((r.ext x).ext x2).ext x3).domW
  have ex := x.trans (x2.trans x3)
  unfold gSl at hu
  split at hu
  · obtain ⟨a, xs, rfl, h1, h2, h3⟩ := rp'.list
    exact .inl ⟨a, xs, rfl, h1, fun p hp => k _ hu _ _ (ex.trans (Ext.new hp)) (Rep.newL dW hp h2.cut (Nat.le_trans (cutD_le _ _ _) h3))⟩
  · obtain ⟨a, xs, rfl, h1, h2, h3⟩ := rp'.tuple
    refine .inr (.inl ⟨a, xs, rfl, h1, fun e => ?_, fun _ p hp => k _ hu _ _ (ex.trans (Ext.new hp)) (Rep.newT dW hp h2.cut (Nat.le_trans (cutD_le _ _ _) h3))⟩)
    rw [h2.length] at e
    rw [cutD_whole e] at hu
    exact k _ hu _ _ ex rp'.tupleRep
  · cases rp'.str
    exact .inr (.inr ⟨_, rfl, hu.1, k _ hu.2 _ _ ex (.str _)⟩)
  · exact hu.elim
end
end DL

namespace DL
open PySem PySem.Spec L2
open PyProof.Rows hiding St

/-! ### what is walked -/
section
variable {X : Cx} {e e2 tg : Expr} {pos p : Pos} {t ta : Wx}
def signs (z : Str) : List D := z.cps.toList.map fun c => .str ⟨#[c]⟩
@[simp] def onSeq (Q : List D → Prop) : D → Prop
  | .list xs => Q xs
  | .tuple xs => Q xs
  | .str z => z.length ≤ sizeLine ∧ Q (signs z)
  | _ => False
@[simp] def wiSeq (t : Wx) : Wa := fun ρ Q => t ρ (onSeq Q)
theorem walkD_list {w : World} {K : PySem.W.Frag} {W : Addr → Prop} {H : Hp} {a : Addr} {xs : List V} {ds : List D} (h : LstAt K W H a xs) (r : RepA w K W H xs ds) (l : ds.length ≤ sizeLine) : WalkD w K W (Itl K a) ds H where
  len := l
  go := fun H2 k i hi => (walk_list (K := K) (a := a) (xs := xs)).goes i H2 (by rw [r.length]; exact hi) (.inl (.inl (k _ _ h.1 h.2)))
  stop := fun H2 k => by
    have := (walk_list (K := K) (a := a) (xs := xs)).stops H2 (.inl (.inl (k _ _ h.1 h.2)))
    rw [r.length] at this
    exact this
  yld := fun H2 W' k hn hd i x H3 hi hy => by
    obtain ⟨rfl, h2⟩ := (walk_list (K := K) (a := a) (xs := xs)).yields i H2 x H3 (by rw [r.length]; exact hi) (.inl (.inl (k _ _ h.1 h.2))) hy
    obtain ⟨d, e, rd⟩ := r.get' h2
    exact ⟨Same.refl _, d, e, rd.mono hn k⟩
theorem walkD_tup {w : World} {K : PySem.W.Frag} {W : Addr → Prop} {H : Hp} {a : Addr} {xs : List V} {ds : List D} (h : TupAt K W H a xs) (r : RepA w K W H xs ds) (l : ds.length ≤ sizeLine) : WalkD w K W (Itt K a) ds H where
  len := l
  go := fun H2 k i hi => (walk_tup (K := K) (a := a) (xs := xs)).goes i H2 (by rw [r.length]; exact hi) (h.mono (fun _ z => .inl z) k).sq
  stop := fun H2 k => by
    have := (walk_tup (K := K) (a := a) (xs := xs)).stops H2 (h.mono (fun _ z => .inl z) k).sq
    rw [r.length] at this
    exact this
  yld := fun H2 W' k hn hd i x H3 hi hy => by
    obtain ⟨rfl, h2⟩ := (walk_tup (K := K) (a := a) (xs := xs)).yields i H2 x H3 (by rw [r.length]; exact hi) (h.mono (fun _ z => .inl z) k).sq hy
    obtain ⟨d, e, rd⟩ := r.get' h2
    exact ⟨Same.refl _, d, e, rd.mono hn k⟩
theorem walkD_str {w : World} {K : PySem.W.Frag} {W : Addr → Prop} {H : Hp} {z : Str} (l : z.length ≤ sizeLine) : WalkD w K W (Its z) (signs z) H := by
  have el : (signs z).length = z.cps.size := by unfold signs; rw [List.length_map, Array.length_toList]
  refine ⟨by rw [el]; exact l, fun H2 k i hi => by rw [el] at hi; exact hi, fun H2 k => by rw [el]; exact Nat.le_refl _, fun H2 W' k hn hd i x H3 hi hy => ?_⟩
  obtain ⟨rfl, c, h1, rfl⟩ := hy
  refine ⟨Same.refl _, .str ⟨#[c]⟩, ?_, .str _⟩
  unfold signs
  rw [List.getElem?_map, Array.getElem?_toList, h1]
  rfl
theorem Rep.onSeq {w : World} {K : PySem.W.Frag} {W : Addr → Prop} {H : Hp} {v : V} {d : D} {Q : List D → Prop} (r : Rep w K W H v d) (q : onSeq Q d) :
    (∃ a xs ds, v = .ref a ∧ LstAt K W H a xs ∧ RepA w K W H xs ds ∧ ds.length ≤ sizeLine ∧ Q ds) ∨ (∃ a xs ds, v = .ref a ∧ TupAt K W H a xs ∧ RepA w K W H xs ds ∧ ds.length ≤ sizeLine ∧ Q ds) ∨ ∃ z, v = .str z ∧ z.length ≤ sizeLine ∧ Q (signs z) := by
  cases r with
  | lst h1 h2 h3 => exact .inl ⟨_, _, _, rfl, h1, h2, h3, q⟩
  | tup h1 h2 h3 => exact .inr (.inl ⟨_, _, _, rfl, h1, h2, h3, q⟩)
  | str z => exact .inr (.inr ⟨z, rfl, q.1, q.2⟩)
  | non => exact q.elim
  | bl => exact q.elim
  | int => exact q.elim
  | dct => exact q.elim
  | dcs => exact q.elim
theorem qi_seq (h : QE X e t) : QI X tg e (wiSeq t) := by
  -- one of three walks, by what the value is
  have key : PI X tg e fun σ H R => ∃ O pa ρ Q', ER X.w X.K O pa ρ σ H ∧ wiSeq t ρ Q' ∧ ∀ ds, Q' ds → ∀ J H', Ext pa H H' → WalkD X.w X.K (Ow O pa ρ σ) J ds H' → R J H' := by
    refine ⟨fun pins s σ H R I ⟨O, pa, ρ, Q', r, q, k⟩ => ?_⟩
    refine thn (h.run pins s σ H (fun v H1 => ∃ d, onSeq Q' d ∧ Ext pa H H1 ∧ Rep X.w X.K (Ow O pa ρ σ) H1 v d) I ⟨O, pa, ρ, _, r, q, fun d hd v H' x rp => ⟨d, hd, x, rp⟩⟩) fun u s1 ⟨v, H1, I1, r1, d, q1, e1, rp⟩ => ?_
    rcases rp.onSeq q1 with ⟨a, xs, ds, rfl, h1, h2, h3, q2⟩ | ⟨a, xs, ds, rfl, h1, h2, h3, q2⟩ | ⟨z, rfl, h3, q2⟩
    · cases r1
      obtain ⟨its, rv, p, hz⟩ := I1.list h1.sq
      refine wpAny_pyIter_list p.isList ?_
      refine ⟨s1.heap.objs.size, [s1.heap.objs.size], _, _, H1, rfl, I1.kept (t' := s1.toks) fun b o e => Heap.get?_push_of_some _ e, turn_list a _, ⟨_, Heap.get?_push_size _ rfl, rfl, rfl⟩, fun b hb => ?_, k _ q2 _ _ e1 (walkD_list h1 h2 h3)⟩
      have e : b = s1.heap.objs.size := by simpa using hb
      subst e
      exact I1.fpOk (Nat.le_refl _) (I1.hok.fresh (Nat.le_refl _))
    · cases r1
      obtain ⟨its, rv, p, hz⟩ := I1.tuple h1.sq
      refine wpAny_pyIter_tuple (show s1.heap.IsTuple a its.toArray from p) ?_
      refine ⟨s1.heap.objs.size, [s1.heap.objs.size], _, _, H1, rfl, I1.kept (t' := s1.toks) fun b o e => Heap.get?_push_of_some _ e, turn_tuple a _, ⟨_, Heap.get?_push_size _ rfl, rfl, rfl⟩, fun b hb => ?_, k _ q2 _ _ e1 (walkD_tup h1 h2 h3)⟩
      have e : b = s1.heap.objs.size := by simpa using hb
      subst e
      exact I1.fpOk (Nat.le_refl _) (I1.hok.fresh (Nat.le_refl _))
    · obtain ⟨tt, rfl⟩ := r1
      cases ha : z.cps.all (· < 128)
      · exact wpAny_pyIter_wide ha (pi_one (tk := s1.toks) I1 _ (turn_str _ z tt "str_iterator" (.inr rfl)) ⟨_, Heap.get?_push_size _ rfl, rfl, rfl⟩ (k _ q2 _ _ e1 (walkD_str h3)))
      · exact wpAny_pyIter_ascii ha (pi_one (tk := s1.toks) I1 _ (turn_str _ z tt "str_ascii_iterator" (.inl rfl)) ⟨_, Heap.get?_push_size _ rfl, rfl, rfl⟩ (k _ q2 _ _ e1 (walkD_str h3)))
  exact key
/-! ### ranges -/
def rgD (lo : Int) (n : Nat) : List D := (List.range n).map fun (k : Nat) => .int (lo + (k : Int))
theorem walkD_range {w : World} {K : PySem.W.Frag} {W : Addr → Prop} {H : Hp} {lo : Int} {n : Nat} (l : n ≤ sizeLine) : WalkD w K W (Itr lo n) (rgD lo n) H := by
  have el : (rgD lo n).length = n := by unfold rgD; rw [List.length_map, List.length_range]
  refine ⟨by rw [el]; exact l, fun H2 k i hi => by rw [el] at hi; exact hi, fun H2 k => by rw [el]; exact Nat.le_refl _, fun H2 W' k hn hd i x H3 hi hy => ?_⟩
  obtain ⟨rfl, rfl⟩ := hy
  rw [el] at hi
  exact ⟨Same.refl _, .int (lo + i), by unfold rgD; simp [hi], .int _⟩
@[simp] def wiR1 (t : Wa) : Wa := fun ρ Q => t ρ fun ds => match ds with
  | [.int j] => -1000000 ≤ j ∧ j ≤ 1000000 ∧ Q (rgD 0 j.toNat)
  | _ => False
@[simp] def wiR2 (t : Wa) : Wa := fun ρ Q => t ρ fun ds => match ds with
  | [.int i, .int j] => -1000000 ≤ i ∧ i ≤ 1000000 ∧ -1000000 ≤ j ∧ j ≤ 1000000 ∧ Q (rgD i (j - i).toNat)
  | _ => False
theorem qi_range1 {a : Expr} {t : Wa} (hg : Gl X "range") (hm : X.mg "range" = none) (ha : QAB X [a] t) (hs : starEach [a] X.env = [(false, eval a X.env)] := by rfl) : QI X tg (.Call (.Name "range" p) [a] [] pos) (wiR1 t) := by
  refine PI.imp (pi_range1 hg hm ha hs) fun σ H R ⟨O, pa, ρ, Q', r, q, k⟩ => ⟨O, pa, ρ, _, r, q, fun ds hds vs H1 x rp => ?_⟩
  split at hds
  · rename_i j
    obtain ⟨v, rfl, b⟩ := rp.one
    cases b.int
    obtain ⟨h0, h1, q⟩ := hds
    exact ⟨j, rfl, by omega, by omega, k _ q _ _ x (walkD_range (by rw [sizeLine_eq]; omega))⟩
  · exact hds.elim
theorem qi_range2 {a b : Expr} {t : Wa} (hg : Gl X "range") (hm : X.mg "range" = none) (ha : QAB X [a, b] t) (hs : starEach [a, b] X.env = [(false, eval a X.env), (false, eval b X.env)] := by rfl) (hs2 : starEach [b] X.env = [(false, eval b X.env)] := by rfl) : QI X tg (.Call (.Name "range" p) [a, b] [] pos) (wiR2 t) := by
  refine PI.imp (pi_range2 hg hm ha hs hs2) fun σ H R ⟨O, pa, ρ, Q', r, q, k⟩ => ⟨O, pa, ρ, _, r, q, fun ds hds vs H1 x rp => ?_⟩
  split at hds
  · rename_i i j
    obtain ⟨v, u, rfl, b, b'⟩ := rp.two
    cases b.int; cases b'.int
    obtain ⟨h0, h1, h2, h3, q⟩ := hds
    exact ⟨i, j, rfl, ⟨by omega, by omega, by omega, by omega⟩, k _ q _ _ x (walkD_range (by rw [sizeLine_eq]; omega))⟩
  · exact hds.elim

/-! ### zip of two lists, of two tuples -/
def zipD (xs ys : List D) : List D := (xs.zip ys).map fun p => .tuple [p.1, p.2]
theorem walkD_pair {w : World} {K : PySem.W.Frag} {W : Addr → Prop} {H : Hp} {J : It} {xs ys : List V} {ds es : List D} (rx : RepA w K W H xs ds) (ry : RepA w K W H ys es) (l : ds.length ≤ sizeLine)
    (wk : ∀ H2, Kept W H H2 → (∀ i, i < min xs.length ys.length → J.go i H2) ∧ J.stop (min xs.length ys.length) H2 ∧ ∀ i x H3, i < min xs.length ys.length → J.yld i H2 x H3 → YPair (fun i => xs[i]?) (fun i => ys[i]?) i H2 x H3) : WalkD w K W J (zipD ds es) H := by
  have el : (zipD ds es).length = min xs.length ys.length := by unfold zipD; rw [List.length_map, List.length_zip, rx.length, ry.length]
  refine ⟨by rw [el, rx.length]; exact Nat.le_trans (Nat.min_le_left _ _) l, fun H2 k i hi => (wk H2 k).1 i (by rw [← el]; exact hi), fun H2 k => by rw [el]; exact (wk H2 k).2.1, fun H2 W' k hn hd i x H3 hi hy => ?_⟩
  obtain ⟨T, u, v, rfl, hT, rfl, e1, e2⟩ := (wk H2 k).2.2 i x H3 (by rw [← el]; exact hi) hy
  obtain ⟨d1, f1, r1⟩ := rx.get' e1
  obtain ⟨d2, f2, r2⟩ := ry.get' e2
  refine ⟨same_new hT, .tuple [d1, d2], ?_, ?_⟩
  · unfold zipD
    rw [List.getElem?_map, show (ds.zip es)[i]? = some (d1, d2) from List.getElem?_zip_eq_some.mpr ⟨f1, f2⟩]
    rfl
  · exact Rep.newT hd hT (.cons (r1.mono hn k) (.cons (r2.mono hn k) .nil)) (le1000 (by show 2 ≤ 1000; decide))
@[simp] def wiZip (t : Wa) : Wa := fun ρ Q => t ρ fun ds => match ds with
  | [.list xs, .list ys] => Q (zipD xs ys)
  | [.tuple xs, .tuple ys] => Q (zipD xs ys)
  | _ => False
theorem qi_zip {elts : List Expr} {kk : Nat} {tpos : Pos} {t : Wa} (hg : Gl X "zip") (hm : X.mg "zip" = none) (ha : QA X [e, e2] t)
    (hs : starEach [e, e2] X.env = (false, eval e X.env) :: starEach [e2] X.env := by rfl) (hpl : (backTo pos (starEach [e2] X.env)).any (·.1) = false := by rfl) :
    QI X (.Tuple elts kk tpos) (.Call (.Name "zip" p) [e, e2] [] pos) (wiZip t) := by
  refine PI.imp (RZ.pi_zipA hg hm ha hs hpl) fun σ H R ⟨O, pa, ρ, Q', r, q, k⟩ => ⟨O, pa, ρ, _, r, q, fun ds hds vs H1 x rp => ?_⟩
  split at hds
  · cases rp with
    | cons r1 rp =>
      cases rp with
      | cons r2 rp =>
        cases rp
        cases r1 with
        | lst a1 a2 a3 =>
          cases r2 with
          | lst b1 b2 b3 =>
            refine ⟨_, _, _, _, rfl, .inl ⟨a1.sq, b1.sq, k _ hds _ _ x (walkD_pair a2 b2 a3 fun H2 kp => ?_)⟩⟩
            have w1 : ∀ {aa : Addr} {vs : List V}, LstAt X.K (Ow O pa ρ σ) H1 aa vs → SqL X.K H2 aa vs := fun h => .inl (.inl (kp _ _ h.1 h.2))
            exact ⟨fun i hi => (walk_zip rfl).goes i H2 hi ⟨w1 a1, w1 b1⟩, (walk_zip rfl).stops H2 ⟨w1 a1, w1 b1⟩, fun i y H3 hi hy => (walk_zip rfl).yields i H2 y H3 hi ⟨w1 a1, w1 b1⟩ hy⟩
  · cases rp with
    | cons r1 rp =>
      cases rp with
      | cons r2 rp =>
        cases rp
        cases r1 with
        | tup a1 a2 a3 =>
          cases r2 with
          | tup b1 b2 b3 =>
            refine ⟨_, _, _, _, rfl, .inr ⟨a1.sq, b1.sq, k _ hds _ _ x (walkD_pair a2 b2 a3 fun H2 kp => ?_)⟩⟩
            have w1 : ∀ {aa : Addr} {vs : List V}, TupAt X.K (Ow O pa ρ σ) H1 aa vs → SqT X.K H2 aa vs := fun h => (h.mono (fun _ z => .inl z) kp).sq
            refine ⟨fun i hi => ?_, ⟨_, _, w1 a1, w1 b1, by omega⟩, fun i y H3 hi hy => ?_⟩
            · rename_i xs' _ _ _ ys' _
              exact ⟨_, _, _, _, w1 a1, w1 b1, List.getElem?_eq_getElem (by omega), List.getElem?_eq_getElem (by omega)⟩
            · obtain ⟨T, u, v, h1, h2, h3, h4, h5⟩ := hy
              exact ⟨T, u, v, h1, h2, h3, h4 _ (w1 a1), h5 _ (w1 b1)⟩
  · exact hds.elim
def enumD (xs : List D) : List D := zipD (rgD 0 xs.length) xs
@[simp] def wiEnum (t : Wa) : Wa := fun ρ Q => t ρ fun ds => match ds with
  | [.list xs] => Q (enumD xs)
  | _ => False
theorem rep_range {w : World} {K : PySem.W.Frag} {W : Addr → Prop} {H : Hp} (n : Nat) : RepA w K W H ((List.range n).map fun (i : Nat) => V.int i) (rgD 0 n) := by
  unfold rgD
  generalize List.range n = l
  induction l with
  | nil => exact .nil
  | cons a l ih => exact .cons (by show Rep w K W H (V.int a) (.int (0 + (a : Int))); rw [show (0 : Int) + (a : Int) = a by omega]; exact .int _) ih
theorem qi_enum {elts : List Expr} {kk : Nat} {tpos : Pos} {t : Wa} (hg : Gl X "enumerate") (hm : X.mg "enumerate" = none) (ha : QA X [e] t) (hs : starEach [e] X.env = [(false, eval e X.env)] := by rfl) :
    QI X (.Tuple elts kk tpos) (.Call (.Name "enumerate" p) [e] [] pos) (wiEnum t) := by
  refine PI.imp (pi_enum hg hm ha hs) fun σ H R ⟨O, pa, ρ, Q', r, q, k⟩ => ⟨O, pa, ρ, _, r, q, fun ds hds vs H1 x rp => ?_⟩
  split at hds
  · cases rp with
    | cons r1 rp =>
      cases rp
      cases r1 with
      | lst a1 a2 a3 =>
        rename_i a xs
        have lx := a2.length
        refine ⟨a, xs, rfl, a1.sq, k _ hds _ _ x (walkD_pair (xs := (List.range xs.length).map fun (i : Nat) => V.int i) (by rw [lx]; exact rep_range _) a2 (by unfold rgD; rw [List.length_map, List.length_range]; exact a3) fun H2 kp => ?_)⟩
        have w1 : SqL X.K H2 a xs := .inl (.inl (kp _ _ a1.1 a1.2))
        have wz := walk_enum (K := X.K) (a := a) (xs := xs)
        have ml : min ((List.range xs.length).map fun (i : Nat) => V.int i).length xs.length = xs.length := by simp
        rw [ml]
        refine ⟨fun i hi => wz.goes i H2 hi w1, wz.stops H2 w1, fun i y H3 hi hy => ?_⟩
        obtain ⟨T, u, v, h1, h2, h3, h4, h5⟩ := wz.yields i H2 y H3 hi w1 hy
        exact ⟨T, u, v, h1, h2, h3, by simp [hi]; simpa using h4, h5⟩
  · exact hds.elim
end
end DL

namespace DL
open PySem PySem.Spec L2
open PyProof.Rows hiding St

/-! ### what a def promises of data -/
/-- arguments in, what is handed back out; nothing that stood is changed -/
def spD (w : World) (K : PySem.W.Frag) (n : Nat) (W : GC) : Sp := fun vs H Q _ => ∃ (O : Addr → Prop) (ds : List D) (Q' : D → Prop), ds.length = n ∧ (∀ b, O b → H b ≠ none) ∧ RepA w K O H vs ds ∧ W ds Q' ∧
  ∀ d, Q' d → ∀ v H', Same H H' → Rep w K O H' v d → Q v H'
/-- .. with the pool as the first argument -/
def spP (w : World) (K : PySem.W.Frag) (n : Nat) (W : GC) : Sp := fun vs H Q _ => ∃ (O : Addr → Prop) (a c : Addr) (ns : List Int) (rest : List V) (ds : List D) (Q' : D → Prop), vs = .ref a :: rest ∧ ds.length + 1 = n ∧ (∀ b, O b → H b ≠ none) ∧ ¬ O a ∧
  PoolAt H a c ∧ LstAt K (fun b => O b ∨ b = a) H c (ns.map V.int) ∧ RepA w K (fun b => O b ∨ b = a) H rest ds ∧ W ds Q' ∧
  ∀ d, Q' d → ∀ v H', Ext (some (a, c)) H H' → Rep w K (fun b => O b ∨ b = a) H' v d → Q v H'
@[simp] def start0 (N : List Str) (ds : List D) : Rho := ds.map (fun d => some (.fz d)) ++ List.replicate (N.length - ds.length) none
@[simp] def startP (N : List Str) (ds : List D) : Rho := some .pl :: ds.map (fun d => some (.fz d)) ++ List.replicate (N.length - (ds.length + 1)) none
theorem isP_none {b : Addr} : ¬ isP none b := fun ⟨_, h⟩ => nomatch h
section
variable {P : Program} {w : World} {K : PySem.W.Frag} {mg : Str → Option Value} {base : Heap}
theorem noOwn {O : Addr → Prop} {pa : PAd} {ρ : Rho} {σ : St} (h : ∀ (i : Nat) s, ρ[i]? = some (some s) → s.own = false) (b : Addr) : ¬ owns ρ σ b := fun ⟨i, s, h1, h2, _⟩ => by
  rw [h i s h1] at h2; cases h2
theorem own_start0 {N : List Str} {ds : List D} : ∀ (i : Nat) s, (start0 N ds)[i]? = some (some s) → s.own = false ∧ ∃ d, ds[i]? = some d ∧ s = .fz d := fun i s h => by
  unfold start0 at h
  by_cases hi : i < ds.length
  · rw [List.getElem?_append_left (by simpa using hi), List.getElem?_map] at h
    rw [List.getElem?_eq_getElem hi] at h
    simp at h
    subst h
    exact ⟨rfl, _, List.getElem?_eq_getElem hi, rfl⟩
  · rw [List.getElem?_append_right (by simpa using Nat.le_of_not_lt hi)] at h
    rw [List.getElem?_replicate] at h
    split at h <;> simp at h
theorem start_get {N : List Str} {vs : List V} {i : Nat} {v : V} (h : vs[i]? = some v) : (start N vs)[i]? = some (some v) := by
  unfold L2.start
  have hi : i < vs.length := (List.getElem?_eq_some_iff.mp h).1
  rw [List.getElem?_append_left (by simpa using hi), List.getElem?_map, h]
  rfl
theorem start_len {N : List Str} {vs : List V} (h : vs.length ≤ N.length) : (start N vs).length = N.length := by
  unfold L2.start
  rw [List.length_append, List.length_map, List.length_replicate]
  omega
theorem sr_start {N : List Str} {vs : List V} {ds : List D} {O : Addr → Prop} {H : Hp} (hO : ∀ b, O b → H b ≠ none) (r : RepA w K O H vs ds) : SR w K O none H (start0 N ds) (start N vs) H where
  len := by unfold start0 L2.start; simp [r.length]
  dom := hO
  pool := fun a c h => nomatch h
  slot := fun i s h => by
    obtain ⟨_, d, h1, rfl⟩ := own_start0 i s h
    obtain ⟨v, h2, h3⟩ := r.get h1
    refine ⟨v, start_get h2, h3.mono (fun b z => .inl ?_) fun _ _ _ z => z⟩
    rcases z with z | z | z
    · exact z
    · exact (isP_none z).elim
    · exact (noOwn (O := O) (pa := none) (fun i s h => (own_start0 i s h).1) b z).elim
  keep := fun b o z => z
  fresh := fun b z => (noOwn (O := O) (pa := none) (fun i s h => (own_start0 i s h).1) b z).elim
  sep := fun i j s t b h1 h2 => by rw [(own_start0 i s h1).1] at h2; cases h2
  fpa := fun b z => (isP_none z).elim
  fO := hO
/-- THE RULE: a def by its body's reading over data -/
theorem fn_pure {x qual : Str} {st : Stmt} {f : Addr} {fd : FuncData} {N ps : List Str} {k : Nat} {W : GC} {t : Ws} (F : Fun K x qual st f fd) (S : FnScope N ps (defScope st))
    (body : ∀ (cdv : Value) (A : Around) (outer : List Env) (s : Shared) (H : Hp) (E : XK), Room k (A.deeper (envOfC qual (defScope st) s.heap.objs.size f cdv)) → QSs (cxOf CX0 P w K mg base N qual (defScope st) f cdv A outer s H E).nox (defBody st) t)
    (read : ∀ ds Q', ds.length = ps.length → W ds Q' → t { nx := fun _ => Q' .none, rt := Q' } (start0 N ds)) : FnOk P w K mg base CX0 (k + 1) f fd ps (spD w K ps.length W) := by
  refine F.ok S (fun vs H Q E ⟨O, ds, Q', h1, _, h2, _⟩ => h2.length.trans h1) fun cdv A outer s H vs Q E hr h => ?_
  obtain ⟨O, ds, Q', h1, h2, h3, h4, h5⟩ := h
  refine ⟨_, body cdv A outer s H E hr, O, none, H, start0 N ds, _, sr_start h2 h3, read ds Q' h1 h4, fun ρ' q σ' H' r => ?_, fun d hd v H' hk _ rp => ?_, fun ρ' q => q.elim, fun ρ' q => q.elim⟩
  · exact h5 _ q .non H' r.keep .non
  · exact h5 d hd v H' hk (rp.mono (fun b z => .inl (.inl z)) fun _ _ _ z => z)
theorem own_startP {N : List Str} {ds : List D} : ∀ (i : Nat) s, (startP N ds)[i]? = some (some s) → s.own = false ∧ ((i = 0 ∧ s = .pl) ∨ ∃ j d, i = j + 1 ∧ ds[j]? = some d ∧ s = .fz d) := fun i s h => by
  cases i with
  | zero => simp [startP] at h; subst h; exact ⟨rfl, .inl ⟨rfl, rfl⟩⟩
  | succ j =>
    have h' : (ds.map (fun d => some (Sl.fz d)) ++ List.replicate (N.length - (ds.length + 1)) none)[j]? = some (some s) := by
      unfold startP at h
      rw [List.cons_append, List.getElem?_cons_succ] at h
      exact h
    by_cases hi : j < ds.length
    · rw [List.getElem?_append_left (by simpa using hi), List.getElem?_map] at h'
      rw [List.getElem?_eq_getElem hi] at h'
      simp at h'
      subst h'
      exact ⟨rfl, .inr ⟨j, _, rfl, List.getElem?_eq_getElem hi, rfl⟩⟩
    · rw [List.getElem?_append_right (by simpa using Nat.le_of_not_lt hi)] at h'
      rw [List.getElem?_replicate] at h'
      split at h' <;> simp at h'
theorem isP_some {a c b : Addr} : isP (some (a, c)) b ↔ b = a := ⟨fun ⟨_, h⟩ => by cases h; rfl, fun h => ⟨c, by rw [h]⟩⟩
theorem sr_startP {N : List Str} {vs : List V} {ds : List D} {O : Addr → Prop} {H : Hp} {a c : Addr} {ns : List Int} (hO : ∀ b, O b → H b ≠ none) (na : ¬ O a) (hp : PoolAt H a c) (hc : LstAt K (fun b => O b ∨ b = a) H c (ns.map V.int)) (r : RepA w K (fun b => O b ∨ b = a) H vs ds) :
    SR w K O (some (a, c)) (fun b => if b = a then none else H b) (startP N ds) (start N (.ref a :: vs)) H := by
  have sub : ∀ b, Ow O (some (a, c)) (startP N ds) (start N (.ref a :: vs)) b → (O b ∨ b = a) := fun b z => by
    rcases z with z | z | z
    · exact .inl z
    · exact .inr (isP_some.mp z)
    · exact (noOwn (O := O) (pa := none) (fun i s h => (own_startP i s h).1) b z).elim
  refine ⟨⟨?_, hO, fun a' c' h => ?_, fun i s h => ?_⟩, fun b o z => ?_, fun b z => (noOwn (O := O) (pa := none) (fun i s h => (own_startP i s h).1) b z).elim, fun i j s t b h1 h2 => ?_, fun b z => ?_, fun b z => ?_⟩
  · unfold startP L2.start; simp [r.length]
  · cases h
    exact ⟨hp, ns, hc.mono (fun b z => .inl (sub b z)) fun _ _ _ z => z⟩
  · obtain ⟨_, h1⟩ := own_startP i s h
    rcases h1 with ⟨rfl, rfl⟩ | ⟨j, d, rfl, h1, rfl⟩
    · exact ⟨.ref a, start_get rfl, a, c, rfl, rfl⟩
    · obtain ⟨v, h2, h3⟩ := r.get h1
      exact ⟨v, start_get (by rw [List.getElem?_cons_succ]; exact h2), h3.mono (fun b z => .inl (sub b z)) fun _ _ _ z => z⟩
  · split at z
    · cases z
    · exact z
  · rw [(own_startP i s h1).1] at h2; cases h2
  · show (if b = a then none else H b) = none
    rw [if_pos (isP_some.mp z)]
  · show (if b = a then none else H b) ≠ none
    rw [if_neg (fun e => na (by rw [← e]; exact z))]
    exact hO b z
/-- THE RULE: a def that draws -/
theorem fn_draw {x qual : Str} {st : Stmt} {f : Addr} {fd : FuncData} {N ps : List Str} {k : Nat} {W : GC} {t : Ws} (F : Fun K x qual st f fd) (S : FnScope N ps (defScope st))
    (body : ∀ (cdv : Value) (A : Around) (outer : List Env) (s : Shared) (H : Hp) (E : XK), Room k (A.deeper (envOfC qual (defScope st) s.heap.objs.size f cdv)) → QSs (cxOf CX0 P w K mg base N qual (defScope st) f cdv A outer s H E).nox (defBody st) t)
    (read : ∀ ds Q', ds.length + 1 = ps.length → W ds Q' → t { nx := fun _ => Q' .none, rt := Q' } (startP N ds)) : FnOk P w K mg base CX0 (k + 1) f fd ps (spP w K ps.length W) := by
  refine F.ok S (fun vs H Q E ⟨O, a, c, ns, rest, ds, Q', h0, h1, _, _, _, _, h2, _⟩ => by rw [h0, List.length_cons, h2.length]; exact h1) fun cdv A outer s H vs Q E hr h => ?_
  obtain ⟨O, a, c, ns, rest, ds, Q', rfl, h1, h2, h3, h4, h5, h6, h7, h8⟩ := h
  refine ⟨_, body cdv A outer s H E hr, O, some (a, c), _, startP N ds, _, sr_startP h2 h3 h4 h5 h6, read ds Q' h1 h7, fun ρ' q σ' H' r => ?_, fun d hd v H' hk hpl rp => ?_, fun ρ' q => q.elim, fun ρ' q => q.elim⟩
  · exact h8 _ q .non H' ⟨fun b o n z => r.keep b o (by rw [if_neg (fun e => n (isP_some.mpr e))]; exact z), fun a' c' e _ => by cases e; exact (r.pool a c rfl).1⟩ .non
  · exact h8 d hd v H' ⟨fun b o n z => hk b o (by rw [if_neg (fun e => n (isP_some.mpr e))]; exact z), fun a' c' e _ => hpl a' c' e⟩ (rp.mono (fun b z => .inl (z.elim .inl fun e => .inr (isP_some.mpr e))) fun _ _ _ z => z)
end

/-! ### calls of the text's own defs -/
section
variable {X : Cx} {e : Expr} {es : List Expr} {pos p : Pos} {k n : Nat} {f : Addr} {fd : FuncData} {ps : List Str} {x : Str} {W : GC} {t : Wa}
@[simp] def wCall (n : Nat) (W : GC) (t : Wa) : Wx := fun ρ Q => t ρ fun ds => ds.length = n ∧ W ds Q
theorem q_call (F : FnOk X.prog X.w X.K X.mg X.base CX0 k f fd ps (spD X.w X.K n W)) (hr : Room k X.A) (hg : Gl X x) (hm : X.mg x = some (.ref f)) (hk : PySem.W.keepIn X.K (.ref f) = true) (hb : Binds X.K fd ps [])
    (ha : QA X (e :: es) t) (hdb : (x == ("__debug__" : Str)) = false := by decide) (he : starEach (e :: es) X.env = (false, eval e X.env) :: starEach es X.env := by rfl) (hpl : (backTo pos (starEach es X.env)).any (·.1) = false := by rfl) :
    QE X (.Call (.Name x p) (e :: es) [] pos) (wCall n W t) :=
  PE.imp (pe_call F hr hg hm hk hb .nil pass0 ha hdb he hpl) fun σ H Q ⟨O, pa, ρ, Q', r, q, kk⟩ => ⟨O, pa, ρ, _, r, q, fun ds hds vs H1 x1 rp => by
    show spD X.w X.K n W (vs ++ []) H1 Q E0
    rw [List.append_nil]
    exact ⟨Ow O pa ρ σ, ds, Q', hds.1, (r.ext x1).domW, rp, hds.2, fun d hd v H2 sm rp2 => kk d hd v H2 (x1.trans (.of sm)) rp2⟩⟩
@[simp] def wCallP (i n : Nat) (W : GC) (t : Wa) : Wx := fun ρ Q => ρ[i]? = some (some .pl) ∧ t ρ fun ds => ds.length + 1 = n ∧ W ds Q
/-- f(pool, ..): the pool stands in slot i -/
theorem q_callP {i : Nat} {y : Str} {py : Pos} (F : FnOk X.prog X.w X.K X.mg X.base CX0 k f fd ps (spP X.w X.K n W)) (hr : Room k X.A) (hg : Gl X x) (hm : X.mg x = some (.ref f)) (hk : PySem.W.keepIn X.K (.ref f) = true) (hb : Binds X.K fd ps [])
    (ha : QA X es t) (hN : X.N[i]? = some y := by rfl) (hv : Vis X.env.scope y := by first | exact Or.inl rfl | exact Or.inr (Or.inl rfl) | exact Or.inr (Or.inr rfl)) (hd : (y == ("__debug__" : Str)) = false := by decide)
    (hcd : (y == ("__classdict__" : Str)) = false := by decide) (hdb : (x == ("__debug__" : Str)) = false := by decide)
    (he : starEach (.Name y py :: es) X.env = (false, eval (.Name y py) X.env) :: starEach es X.env := by rfl) (hpl : (backTo pos (starEach es X.env)).any (·.1) = false := by rfl) :
    QE X (.Call (.Name x p) (.Name y py :: es) [] pos) (wCallP i n W t) :=
  PE.imp (pe_call F hr hg hm hk hb .nil pass0 (pa_cons (pe_var hN hv hd hcd) ha he) hdb he hpl) fun σ H Q ⟨O, pa, ρ, Q', r, ⟨h0, q⟩, kk⟩ => by
    obtain ⟨v, h1, a, c, rfl, rfl⟩ := r.slot i _ h0
    refine ⟨_, h1, O, _, ρ, _, r, q, fun ds hds vs H1 x1 rp => ?_⟩
    show spP X.w X.K n W ((V.ref a :: vs) ++ []) H1 Q E0
    rw [List.append_nil]
    have r1 := r.ext x1
    obtain ⟨p1, ns, p2⟩ := r1.pool a c rfl
    have eqv : ∀ b, ((Ow O (some (a, c)) ρ σ b ∧ b ≠ a) ∨ b = a) → Ow O (some (a, c)) ρ σ b := fun b z => z.elim (·.1) fun e => ow_pa b (isP_some.mpr e)
    have eqv' : ∀ b, Ow O (some (a, c)) ρ σ b → ((Ow O (some (a, c)) ρ σ b ∧ b ≠ a) ∨ b = a) := fun b z => by
      by_cases e : b = a
      · exact .inr e
      · exact .inl ⟨z, e⟩
    refine ⟨fun b => Ow O (some (a, c)) ρ σ b ∧ b ≠ a, a, c, ns, vs, ds, Q', rfl, hds.1, fun b z => r1.domW b z.1, fun z => z.2 rfl, p1, p2.mono (fun b z => .inl (eqv b z)) fun _ _ _ z => z, rp.mono (fun b z => .inl (eqv b z)) fun _ _ _ z => z, hds.2, fun d hd v H2 x2 rp2 => ?_⟩
    exact kk d hd v H2 (x1.trans x2) (rp2.mono (fun b z => .inl (eqv' b z)) fun _ _ _ z => z)
end
end DL

namespace DL
open PySem PySem.Spec L2
open PyProof.Rows hiding St

/-! ### lists of the frame's own -/
section
variable {w : World} {K : PySem.W.Frag} {O : Addr → Prop} {pa : PAd} {ρ : Rho} {σ : St} {H H' Fz : Hp}
theorem SR.setOwn {i : Nat} {p : Addr} {xs : List V} {ds : List D} (r : SR w K O pa Fz ρ σ H) (e : Ext pa H H') (np : H p = none) (ep : H' p = some (.lst xs)) (rp : RepA w K (fun b => Ow O pa ρ σ b ∨ b = p) H' xs ds) (l : ds.length ≤ sizeLine) :
    SR w K O pa Fz (ρ.set i (some (.ol ds))) (σ.set i (some (.ref p))) H' := by
  have npo : ¬ Ow O pa ρ σ p := fun z => r.toER.domW p z np
  have npp : ¬ isP pa p := fun z => npo (ow_pa p z)
  have own : ∀ {j : Nat} {s : Sl} {b : Addr}, (ρ.set i (some (.ol ds)))[j]? = some (some s) → s.own = true → (σ.set i (some (.ref p)))[j]? = some (some (.ref b)) → (j = i ∧ b = p) ∨ (j ≠ i ∧ ρ[j]? = some (some s) ∧ σ[j]? = some (some (.ref b))) := fun {j s b} h1 h2 h3 => by
    by_cases c : i = j
    · subst c
      have hi : i < ρ.length := by
        have := (List.getElem?_eq_some_iff.mp h1).1
        simpa using this
      rw [List.getElem?_set_self (by rw [← r.len]; exact hi)] at h3
      cases h3
      exact .inl ⟨rfl, rfl⟩
    · rw [List.getElem?_set_ne c] at h1 h3
      exact .inr ⟨fun q => c q.symm, h1, h3⟩
  have sub : ∀ b, Ow O pa (ρ.set i (some (.ol ds))) (σ.set i (some (.ref p))) b → (Ow O pa ρ σ b ∨ b = p) := by
    rintro b (z | z | ⟨j, s, h1, h2, h3⟩)
    · exact .inl (.inl z)
    · exact .inl (.inr (.inl z))
    · rcases own h1 h2 h3 with ⟨_, q⟩ | ⟨_, q1, q2⟩
      · exact .inr q
      · exact .inl (.inr (.inr ⟨j, s, q1, h2, q2⟩))
  have sub' : ∀ b, Ow O pa (ρ.set i (some (.ol ds))) (σ.set i (some (.ref p))) b → (Ow O pa ρ σ b ∨ H b = none) := fun b z => (sub b z).elim .inl fun q => .inr (by rw [q]; exact np)
  have r' := r.ext e
  refine ⟨⟨by rw [List.length_set, List.length_set]; exact r.len, r'.dom, fun a c h => ?_, fun j s h => ?_⟩, r'.keep, fun b z => ?_, fun j k s t b h1 h2 h3 h4 h5 h6 => ?_, r.fpa, r.fO⟩
  · obtain ⟨_, ns, h2⟩ := r.pool a c h
    exact ⟨(r'.pool a c h).1, ns, h2.mono sub' (wkeep ow_pa e)⟩
  · by_cases c : i = j
    · subst c
      by_cases hi : i < ρ.length
      · rw [List.getElem?_set_self hi] at h
        cases h
        exact ⟨_, by rw [List.getElem?_set_self (by rw [← r.len]; exact hi)], p, xs, rfl, ep, rp.mono (fun b z => .inl (sub b z)) (fun _ _ _ z => z), l, npp⟩
      · rw [List.getElem?_eq_none (by simpa using hi)] at h
        cases h
    · rw [List.getElem?_set_ne c] at h
      obtain ⟨u, h1, h2⟩ := r.slot j s h
      exact ⟨u, by rw [List.getElem?_set_ne c]; exact h1, h2.mono sub' (wkeep ow_pa e) fun _ b o _ q n => e.1 b o n q⟩
  · obtain ⟨j, s, h1, h2, h3⟩ := z
    rcases own h1 h2 h3 with ⟨_, rfl⟩ | ⟨_, q1, q2⟩
    · cases q : Fz b with
      | none => rfl
      | some o => rw [r.keep b o q] at np; cases np
    · exact r.fresh b ⟨j, s, q1, h2, q2⟩
  · have no : ∀ {j : Nat} {s : Sl}, ρ[j]? = some (some s) → s.own = true → σ[j]? = some (some (.ref p)) → False := fun a b c => npo (.inr (.inr ⟨_, _, a, b, c⟩))
    rcases own h1 h2 h3 with ⟨e1, rfl⟩ | ⟨e1, q1, q2⟩
    · rcases own h4 h5 h6 with ⟨e2, _⟩ | ⟨e2, q3, q4⟩
      · rw [e1, e2]
      · exact (no q3 h5 q4).elim
    · rcases own h4 h5 h6 with ⟨e2, rfl⟩ | ⟨e2, q3, q4⟩
      · exact (no q1 h2 q2).elim
      · exact r.sep j k s t b q1 h2 q2 q3 h5 q4
/-- an own list is changed in its place -/
theorem SR.write {i : Nat} {a : Addr} {xs ys : List V} {ds es : List D} (r : SR w K O pa Fz ρ σ H) (hi : ρ[i]? = some (some (.ol ds))) (ha : σ[i]? = some (some (.ref a))) (rp : RepA w K (Ow O pa ρ σ) H ys es) (l : es.length ≤ sizeLine) :
    SR w K O pa Fz (ρ.set i (some (.ol es))) σ (upd H a (.lst ys)) := by
  obtain ⟨v, h1, a', xs', rfl, h2, h3, h4, npp⟩ := r.slot i _ hi
  rw [ha] at h1; cases h1
  have il : i < ρ.length := (List.getElem?_eq_some_iff.mp hi).1
  have own : ∀ {j : Nat} {s : Sl}, (ρ.set i (some (.ol es)))[j]? = some (some s) → s.own = true → ∃ t, ρ[j]? = some (some t) ∧ t.own = true := fun {j s} q1 q2 => by
    by_cases c : i = j
    · subst c; exact ⟨_, hi, rfl⟩
    · rw [List.getElem?_set_ne c] at q1; exact ⟨_, q1, q2⟩
  have ow : Ow O pa ρ σ a := .inr (.inr ⟨i, _, hi, rfl, ha⟩)
  have sub : ∀ b, Ow O pa (ρ.set i (some (.ol es))) σ b → Ow O pa ρ σ b := by
    rintro b (z | z | ⟨j, s, q1, q2, q3⟩)
    · exact .inl z
    · exact .inr (.inl z)
    · obtain ⟨t, q4, q5⟩ := own q1 q2
      exact .inr (.inr ⟨j, t, q4, q5, q3⟩)
  have kp : ∀ b o, ¬ Ow O pa ρ σ b → H b = some o → upd H a (.lst ys) b = some o := fun b o n z => by
    rw [upd_ne (fun q => n (by rw [q]; exact ow))]; exact z
  have fa : Fz a = none := r.fresh a ⟨i, _, hi, rfl, ha⟩
  refine ⟨⟨by rw [List.length_set]; exact r.len, fun b z => ?_, fun a' c h => ?_, fun j s h => ?_⟩, fun b o z => ?_, fun b z => ?_, fun j k s t b q1 q2 q3 q4 q5 q6 => ?_, r.fpa, r.fO⟩
  · by_cases q : b = a
    · rw [q, upd_same]; simp
    · rw [upd_ne q]; exact r.dom b z
  · obtain ⟨⟨i', j', k', s', p1, p2⟩, ns, p3⟩ := r.pool a' c h
    refine ⟨⟨i', j', k', s', ?_, p2⟩, ns, p3.mono (fun b z => .inl (sub b z)) kp⟩
    rw [upd_ne (fun q => npp ⟨c, by rw [← q]; exact h⟩)]
    exact p1
  · by_cases c : i = j
    · subst c
      rw [List.getElem?_set_self il] at h
      cases h
      exact ⟨_, ha, a, ys, rfl, upd_same, rp.mono (fun b z => .inl (sub b z)) kp, l, npp⟩
    · rw [List.getElem?_set_ne c] at h
      obtain ⟨u, p1, p2⟩ := r.slot j s h
      refine ⟨u, p1, p2.mono (fun b z => .inl (sub b z)) kp fun so b o eb q _ => ?_⟩
      rw [upd_ne (fun q' => ?_)]
      · exact q
      · subst eb
        rw [q'] at p1
        exact c (r.sep i j _ _ a hi rfl ha h so p1)
  · rw [upd_ne (fun q => by rw [q, fa] at z; cases z)]
    exact r.keep b o z
  · obtain ⟨j, s, q1, q2, q3⟩ := z
    obtain ⟨t, q4, q5⟩ := own q1 q2
    exact r.fresh b ⟨j, t, q4, q5, q3⟩
  · obtain ⟨t1, a1, a2⟩ := own q1 q2
    obtain ⟨t2, b1, b2⟩ := own q4 q5
    exact r.sep j k t1 t2 b a1 a2 q3 b1 b2 q6
end
section
variable {X : Cx} {pos : Pos}
@[simp] def wOwn (i : Nat) (t : Wa) : Ws := fun E ρ => t ρ fun ds => E.nx (ρ.set i (some (.ol ds)))
theorem qs_own {i : Nat} {x : Str} {e : Expr} {t : Wa} {pos' : Pos} (hN : X.N.Nodup) (hi : X.N[i]? = some x) (hx : Loc X.env.scope x) (he : QF X e t) (hs : swapsWith e (some (.Name x pos')) pos.line X.env = pure false := by rfl) (hf : X.fn x = true ∨ X.env.scope.names.lookup x = some .local := by first | exact .inl rfl | exact .inr rfl | assumption) :
    QS X (.Assign [.Name x pos'] e pos) (wOwn i t) :=
  PS.imp (ps_set hN hi hx he hs hf) fun Dd σ H ⟨O, pa, Fz, ρ, E, r, q, k1, _⟩ => ⟨O, pa, ρ, _, r.toER, q, fun ds hd p xs H' x np ep rp l => k1 _ hd _ _ (r.setOwn x np ep rp l)⟩
@[simp] def wfLst (t : Wa) : Wa := fun ρ Q => t ρ fun ds => ds.length ≤ 1000 ∧ Q ds
theorem qf_lst {es : List Expr} {t : Wa} (h : QA X es t) : QF X (.List es pos) (wfLst t) :=
  PE.imp (pe_lst h) fun σ H Q ⟨O, pa, ρ, Q', r, q, k⟩ => ⟨O, pa, ρ, _, r, q, fun ds hds vs H1 x rp => ⟨by rw [rp.length]; exact le1000 hds.1, fun p hp => k _ hds.2 p vs _ (x.trans (Ext.new hp)) (ext_none x (fun b z => (r.ext x).domW b (ow_pa b z)) hp) upd_same
    (rp.mono (fun b z => z.elim .inl fun e => .inr (by rw [e]; exact hp)) fun b o _ z => same_new hp b o z) (le1000 hds.1)⟩⟩
@[simp] def wfListOf (t : Wa) : Wa := fun ρ Q => t ρ fun ds => match ds with
  | [.list xs] => Q xs
  | [.tuple xs] => Q xs
  | _ => False
theorem qf_listOf {a : Expr} {p : Pos} {t : Wa} (hg : Gl X "list") (hm : X.mg "list" = none) (ha : QAB X [a] t) (he : starEach [a] X.env = (false, eval a X.env) :: starEach [] X.env := by rfl) (hpl : (backTo pos (starEach [] X.env)).any (·.1) = false := by rfl) :
    QF X (.Call (.Name "list" p) [a] [] pos) (wfListOf t) :=
  PE.imp (pe_callTy call_list_of hg hm (by decide +kernel) ha (by decide) (by decide) he hpl) fun σ H Q ⟨O, pa, ρ, Q', r, q, k⟩ => ⟨O, pa, ρ, _, r, q, fun ds hds vs H1 x rp => by
    have dW := (r.ext x).domW
    split at hds
    · obtain ⟨v, rfl, b⟩ := rp.one
      obtain ⟨a, xs, rfl, h1, h2, h3⟩ := b.list
      exact ⟨a, xs, rfl, .inl h1, fun l hl => k _ hds l xs _ (x.trans (Ext.new hl)) (ext_none x (fun b z => dW b (ow_pa b z)) hl) upd_same (h2.mono (fun b z => z.elim .inl fun e => .inr (by rw [e]; exact hl)) fun b o _ z => same_new hl b o z) h3⟩
    · obtain ⟨v, rfl, b⟩ := rp.one
      obtain ⟨a, xs, rfl, h1, h2, h3⟩ := b.tuple
      exact ⟨a, xs, rfl, .inr h1, fun l hl => k _ hds l xs _ (x.trans (Ext.new hl)) (ext_none x (fun b z => dW b (ow_pa b z)) hl) upd_same (h2.mono (fun b z => z.elim .inl fun e => .inr (by rw [e]; exact hl)) fun b o _ z => same_new hl b o z) h3⟩
    · exact hds.elim⟩
theorem qs_ownLc {i : Nat} {y : Str} {py : Pos} {elt tg iter : Expr} {ifs : List Expr} {scope : Scope} {own : List (Str × Nat)} {is : List Nat} {cpos : Pos} {wi : Wa} {g : Wg} {tt : Wt} {te : Wx} (hN : X.N.Nodup) (hy : X.N[i]? = some y) (hyl : X.env.scope.names.lookup y = some .local)
    (hsw : swapsWith (.ListComp elt [⟨tg, iter, ifs, 0⟩] scope cpos) (some (.Name y py)) pos.line X.env = pure true) (hi : QI X tg iter wi) (ok : BlkOk X.N X.env.scope scope own)
    (hg : ∀ (s : Shared) (H : Hp) (C : Addr) (cl : List (Str × Addr)) (fp : List Addr), QG (X.blk s H scope (compEnvC scope cl C X.env) fp) tg is g) (ht : ∀ (s : Shared) (H : Hp) (C : Addr) (cl : List (Str × Addr)) (fp : List Addr), QTs (X.blk s H scope (compEnvC scope cl C X.env) fp) ifs tt)
    (he : ∀ (s : Shared) (H : Hp) (C : Addr) (cl : List (Str × Addr)) (fp : List Addr), QE (X.blk s H scope (compEnvC scope cl C X.env) fp) elt te) (his : ∀ i ∈ is, i ∈ own.map (·.2) := by decide) (hc : X.calm = true := by rfl) (hs : ∀ x, foldedSetIterable iter X.env x = pure x := by intro _; rfl) :
    QS X (.Assign [.Name y py] (.ListComp elt [⟨tg, iter, ifs, 0⟩] scope cpos) pos) (wOwn i (wfLc wi (own.map (·.2)) g tt te)) :=
  PS.imp (ps_setLc hc hN hy hyl hsw hi ok hg ht he hs) fun Dd σ H ⟨O, pa, Fz, ρ, E, r, q, k1, _⟩ => lc_readF his ⟨O, pa, ρ, _, r.toER, q, fun ds hd p xs H' x np ep rp l => k1 _ hd _ _ (r.setOwn x np ep rp l)⟩

/-! ### what is done to an own list -/
@[simp] def onOl (Q : List D → Prop) : Option (Option Sl) → Prop
  | some (some (.ol ds)) => Q ds
  | _ => False
theorem onOl_iff {Q : List D → Prop} {s : Option (Option Sl)} (h : onOl Q s) : ∃ ds, s = some (some (.ol ds)) ∧ Q ds := by
  unfold onOl at h
  split at h
  · exact ⟨_, rfl, h⟩
  · exact h.elim
/-- x.append(e) -/
@[simp] def wApp (i : Nat) (t : Wx) : Ws := fun E ρ => onOl (fun ds => t ρ fun d => ds.length < 1000000 ∧ E.nx (ρ.set i (some (.ol (ds ++ [d]))))) ρ[i]?
theorem qs_append {i : Nat} {x : Str} {e : Expr} {t : Wx} {px apos cpos : Pos} (he : QE X e t) (hN : X.N[i]? = some x := by rfl) (hv : Vis X.env.scope x := by first | exact Or.inl rfl | exact Or.inr (Or.inl rfl) | exact Or.inr (Or.inr rfl))
    (hd : (x == ("__debug__" : Str)) = false := by decide) (hcd : (x == ("__classdict__" : Str)) = false := by decide)
    (hbase : attributeBase (.Name x px) "append" X.env (eval (.Name x px) X.env) = eval (.Name x px) X.env := by rfl)
    (hfew : ((backTo cpos (starEach [e] X.env)).all (fun x => !x.1) && (backToKw cpos (keywordEach [] X.env)).all (fun x => x.1.isSome)
      && decide ([e].length + ([] : List Keyword).length + (if ([] : List Keyword).isEmpty then 0 else 1) < 30)) = true := by rfl)
    (hline : (apos.endLine == cpos.line) = true := by rfl) (hs : starEach [e] X.env = (false, eval e X.env) :: starEach [] X.env := by rfl) (hplain : (backTo cpos (starEach [] X.env)).any (·.1) = false := by rfl)
    (hsw : swapsWith (.Call (.Attribute (.Name x px) "append" apos) [e] [] cpos) none pos.line X.env = pure false := by rfl) :
    QS X (.Expr (.Call (.Attribute (.Name x px) "append" apos) [e] [] cpos) pos) (wApp i t) := by
  refine PS.imp (ps_expr (pe_bm PySem.F.plainAttrs_list PySem.F.slot_list_append PySem.F.type_list_append mt_append (pe_var hN hv hd hcd) (pa_cons he pa_nil hs) hbase hfew hline hs hplain) hsw) fun Dd σ H ⟨O, pa, Fz, ρ, E, r, q, k1, _⟩ => ?_
  obtain ⟨ds, hx, q⟩ := onOl_iff q
  obtain ⟨v, h1, a, xs, rfl, h2, h3, h4, npp⟩ := r.slot i _ hx
  refine ⟨_, h1, .inl ⟨rfl, xs, .inl (.inl h2)⟩, O, pa, ρ, _, r.toER, q, fun d hd v H1 x rp => ?_⟩
  have r1 := r.ext x
  have h2' : H1 a = some (.lst xs) := x.1 _ _ npp h2
  have sl := sizeLine_eq
  refine ⟨a, xs, v, rfl, rfl, h2', by rw [h3.length, sl]; omega, ?_⟩
  exact k1 _ hd.2 _ _ (r1.write (xs := xs) hx h1 ((h3.ext ow_pa x).append (.cons rp .nil)) (by rw [List.length_append, List.length_singleton, sl]; omega))
/-- x.extend(a new list) -/
@[simp] def wExt (i : Nat) (t : Wa) : Ws := fun E ρ => onOl (fun ds => t ρ fun es => ds.length + es.length ≤ 1000000 ∧ E.nx (ρ.set i (some (.ol (ds ++ es))))) ρ[i]?
theorem qs_extend {i : Nat} {x : Str} {e : Expr} {t : Wa} {px apos cpos : Pos} (he : QF X e t) (hN : X.N[i]? = some x := by rfl) (hv : Vis X.env.scope x := by first | exact Or.inl rfl | exact Or.inr (Or.inl rfl) | exact Or.inr (Or.inr rfl))
    (hd : (x == ("__debug__" : Str)) = false := by decide) (hcd : (x == ("__classdict__" : Str)) = false := by decide)
    (hbase : attributeBase (.Name x px) "extend" X.env (eval (.Name x px) X.env) = eval (.Name x px) X.env := by rfl)
    (hfew : ((backTo cpos (starEach [e] X.env)).all (fun x => !x.1) && (backToKw cpos (keywordEach [] X.env)).all (fun x => x.1.isSome)
      && decide ([e].length + ([] : List Keyword).length + (if ([] : List Keyword).isEmpty then 0 else 1) < 30)) = true := by rfl)
    (hline : (apos.endLine == cpos.line) = true := by rfl) (hs : starEach [e] X.env = (false, eval e X.env) :: starEach [] X.env := by rfl) (hplain : (backTo cpos (starEach [] X.env)).any (·.1) = false := by rfl)
    (hsw : swapsWith (.Call (.Attribute (.Name x px) "extend" apos) [e] [] cpos) none pos.line X.env = pure false := by rfl) :
    QS X (.Expr (.Call (.Attribute (.Name x px) "extend" apos) [e] [] cpos) pos) (wExt i t) := by
  refine PS.imp (ps_expr (pe_bm PySem.F.plainAttrs_list PySem.F.slot_list_extend PySem.F.type_list_extend mt_extend (pe_var hN hv hd hcd) (pa_cons he pa_nil hs) hbase hfew hline hs hplain) hsw) fun Dd σ H ⟨O, pa, Fz, ρ, E, r, q, k1, _⟩ => ?_
  obtain ⟨ds, hx, q⟩ := onOl_iff q
  obtain ⟨v, h1, a, xs, rfl, h2, h3, h4, npp⟩ := r.slot i _ hx
  refine ⟨_, h1, .inl ⟨rfl, xs, .inl (.inl h2)⟩, O, pa, ρ, _, r.toER, q, fun es hd p ys H1 x np ep rp l => ?_⟩
  have r1 := r.ext x
  have h2' : H1 a = some (.lst xs) := x.1 _ _ npp h2
  have sl := sizeLine_eq
  refine ⟨a, p, xs, ys, rfl, rfl, h2', ep, by rw [h3.length, rp.length, sl]; omega, ?_⟩
  exact k1 _ hd.2 _ _ (r1.write (xs := xs) hx h1 ((h3.ext ow_pa x).append (rp.mono (fun b z => .inl (.inl z)) fun _ _ _ z => z)) (by rw [List.length_append, sl]; omega))
/-- x[k] = e -/
@[simp] def wSetI (i : Nat) (tk te : Wx) : Ws := fun E ρ => te ρ fun d => onOl (fun ds => tk ρ (onI fun k => ∃ j, ixN ds.length k = some j ∧ E.nx (ρ.set i (some (.ol (ds.set j d)))))) ρ[i]?
theorem qs_setItem {i : Nat} {x : Str} {ke e : Expr} {tk te : Wx} {px tpos : Pos} (he : QE X e te) (hk : QB X ke tk) (hN : X.N[i]? = some x := by rfl) (hv : Vis X.env.scope x := by first | exact Or.inl rfl | exact Or.inr (Or.inl rfl) | exact Or.inr (Or.inr rfl))
    (hd : (x == ("__debug__" : Str)) = false := by decide) (hcd : (x == ("__classdict__" : Str)) = false := by decide)
    (ha : ∀ v, assign (.Subscript (.Name x px) ke tpos) X.env v = (do
      let ov ← holding [v] (eval (.Name x px) X.env)
      let iv ← holding [v, ov] (eval ke X.env)
      standAt tpos
      holding [v, ov, iv] (setItem ov iv v)
      release [v, ov, iv] []) := by intro _; rfl)
    (hs : swapsWithSole [.Subscript (.Name x px) ke tpos] e pos.line X.env = pure false := by rfl) (hw : swappedStores [.Subscript (.Name x px) ke tpos] e X.env = pure none := by rfl)
    (h1 : (assignEach [.Subscript (.Name x px) ke tpos] X.env).map (·.2) = [assign (.Subscript (.Name x px) ke tpos) X.env] := by rfl) :
    QS X (.Assign [.Subscript (.Name x px) ke tpos] e pos) (wSetI i tk te) := by
  refine PS.imp (ps_asg he (pg_sub (pe_var hN hv hd hcd) hk set_list ha) hs hw h1) fun Dd σ H ⟨O, pa, Fz, ρ, E, r, q, k1, _⟩ => ⟨O, pa, ρ, _, r.toER, q, fun d hd v H1 x rp => ?_⟩
  obtain ⟨ds, hx, q⟩ := onOl_iff hd
  have r1 := r.ext x
  obtain ⟨u, h1, a, xs, rfl, h2, h3, h4, npp⟩ := r1.slot i _ hx
  refine ⟨_, h1, O, pa, ρ, _, r1.toER, q, fun dk hdk vk H2 x2 rpk => ?_⟩
  obtain ⟨k, rfl, j, e1, q2⟩ := onI_iff hdk
  cases rpk.int
  have h2' : H2 a = some (.lst xs) := x2.1 _ _ npp h2
  refine ⟨a, xs, k, j, rfl, rfl, h2', by rw [h3.length]; exact e1, ?_⟩
  exact k1 _ q2 _ _ ((r1.ext x2).write (xs := xs) hx h1 ((h3.ext ow_pa x2).set (rp.ext ow_pa x2) j) (by rw [List.length_set]; exact h4))

/-! ### an own list becomes data -/
@[simp] def frzS : Option Sl → Option Sl
  | some (.ol ds) => some (.fz (.list ds))
  | some (.od kvs) => some (.fz (.dict kvs))
  | s => s
@[simp] def frz (ρ : Rho) (i : Nat) : Rho := match ρ[i]? with
  | some s => ρ.set i (frzS s)
  | none => ρ
theorem SR.frz {w : World} {K : PySem.W.Frag} {O : Addr → Prop} {pa : PAd} {Fz : Hp} {ρ : Rho} {σ : St} {H : Hp} (r : SR w K O pa Fz ρ σ H) (i : Nat) : SR w K O pa Fz (frz ρ i) σ H := by
  unfold DL.frz
  cases hi : ρ[i]? with
  | none => exact r
  | some s =>
    cases s with
    | none => 
      show SR w K O pa Fz (ρ.set i none) σ H
      have e : ρ.set i none = ρ := by
        apply List.ext_getElem?
        intro j
        by_cases c : i = j
        · subst c
          rw [List.getElem?_set_self (List.getElem?_eq_some_iff.mp hi).1, hi]
        · rw [List.getElem?_set_ne c]
      rw [e]; exact r
    | some s =>
      have same : frzS (some s) = some s → SR w K O pa Fz (ρ.set i (frzS (some s))) σ H := fun e => by
        rw [e]
        have e : ρ.set i (some s) = ρ := by
          apply List.ext_getElem?
          intro j
          by_cases c : i = j
          · subst c
            rw [List.getElem?_set_self (List.getElem?_eq_some_iff.mp hi).1, hi]
          · rw [List.getElem?_set_ne c]
        rw [e]; exact r
      -- the value in the slot stays, its place is let go
      have go : ∀ (d : D) (v : V), σ[i]? = some (some v) → (∀ W' : Addr → Prop, (∀ b, W' b → Ow O pa ρ σ b) → (∀ b, v = .ref b → ¬ W' b) → Rep w K W' H v d) → s.own = true → SR w K O pa Fz (ρ.set i (some (.fz d))) σ H := fun d v h1 h2 so => by
        have own : ∀ {j : Nat} {t : Sl}, (ρ.set i (some (.fz d)))[j]? = some (some t) → t.own = true → i ≠ j ∧ ρ[j]? = some (some t) := fun {j t} q1 q2 => by
          by_cases c : i = j
          · subst c
            rw [List.getElem?_set_self (List.getElem?_eq_some_iff.mp hi).1] at q1
            cases q1
            cases q2
          · rw [List.getElem?_set_ne c] at q1
            exact ⟨c, q1⟩
        have sub : ∀ b, Ow O pa (ρ.set i (some (.fz d))) σ b → Ow O pa ρ σ b := by
          rintro b (z | z | ⟨j, t, q1, q2, q3⟩)
          · exact .inl z
          · exact .inr (.inl z)
          · exact .inr (.inr ⟨j, t, (own q1 q2).2, q2, q3⟩)
        have nb : ∀ b, v = .ref b → ¬ Ow O pa (ρ.set i (some (.fz d))) σ b := by
          rintro b rfl (z | z | ⟨j, t, q1, q2, q3⟩)
          · exact r.fO b z (r.fresh b ⟨i, s, hi, so, h1⟩)
          · obtain ⟨u, e1, e2⟩ := r.slot i s hi
            rw [h1] at e1; cases e1
            cases s with
            | fz _ => cases so
            | pl => cases so
            | ol ds => obtain ⟨a, xs, e3, _, _, _, npp⟩ := e2; cases e3; exact npp z
            | od ds => obtain ⟨a, _, _, _, e3, _, _, _, npp⟩ := e2; cases e3; exact npp z
          · exact (own q1 q2).1 (r.sep i j s t b hi so h1 (own q1 q2).2 q2 q3)
        refine ⟨⟨by rw [List.length_set]; exact r.len, r.dom, fun a c h => ?_, fun j t h => ?_⟩, r.keep, fun b ⟨j, t, q1, q2, q3⟩ => r.fresh b ⟨j, t, (own q1 q2).2, q2, q3⟩, fun j k t u b q1 q2 q3 q4 q5 q6 => r.sep j k t u b (own q1 q2).2 q2 q3 (own q4 q5).2 q5 q6, r.fpa, r.fO⟩
        · obtain ⟨e1, ns, e2⟩ := r.pool a c h
          exact ⟨e1, ns, e2.mono (fun b z => .inl (sub b z)) fun _ _ _ z => z⟩
        · by_cases c : i = j
          · subst c
            rw [List.getElem?_set_self (List.getElem?_eq_some_iff.mp hi).1] at h
            cases h
            exact ⟨v, h1, h2 _ sub nb⟩
          · rw [List.getElem?_set_ne c] at h
            obtain ⟨u, e1, e2⟩ := r.slot j t h
            exact ⟨u, e1, e2.mono (fun b z => .inl (sub b z)) (fun _ _ _ z => z) fun _ _ _ _ z _ => z⟩
      cases s with
      | fz d => exact same rfl
      | pl => exact same rfl
      | ol ds =>
        obtain ⟨v, h1, a, xs, rfl, h2, h3, h4, npp⟩ := r.slot i _ hi
        exact go (.list ds) _ h1 (fun W' m nb => .lst ⟨nb a rfl, h2⟩ (h3.mono (fun b z => .inl (m b z)) fun _ _ _ z => z) h4) rfl
      | od kvs =>
        obtain ⟨v, h1, a, ks, vs, ds, rfl, h2, h3, rfl, npp⟩ := r.slot i _ hi
        exact go (.dict (ks.zip ds)) _ h1 (fun W' m nb => .dct ⟨nb a rfl, h2.mono (fun b z => .inl (m b z)) (fun _ _ _ z => z) fun _ z => z⟩ (h3.mono (fun b z => .inl (m b z)) fun _ _ _ z => z)) rfl
@[simp] def wFrz (i : Nat) (t : Ws) : Ws := fun E ρ => t E (frz ρ i)
/-- what follows sees the list in slot i as data -/
theorem qss_frz (i : Nat) {sts : List Stmt} {t : Ws} (h : QSs X sts t) : QSs X sts (wFrz i t) :=
  PSs.imp h fun Dd σ H ⟨O, pa, Fz, ρ, E, r, q, k⟩ => ⟨O, pa, Fz, frz ρ i, E, r.frz i, q, k⟩

/-! ### x op= e -/
@[simp] def wAug (i : Nat) (g : G2) (t : Wx) : Ws := fun E ρ => match ρ[i]? with
  | some (some (.fz d)) => t ρ fun e => g d e fun d' => E.nx (ρ.set i (some (.fz d')))
  | _ => False
theorem qs_aug {i : Nat} {x : Str} {e : Expr} {op : Operator} {g : G2} {t : Wx} {pos' : Pos} (ho : OpD X (inplaceOp op) g) (he : QB X e t) (hN : X.N.Nodup) (hi : X.N[i]? = some x) (hx : Loc X.env.scope x) (hf : X.fn x = true ∨ X.env.scope.names.lookup x = some .local := by first | exact .inl rfl | exact .inr rfl | assumption) :
    QS X (.AugAssign (.Name x pos') op e pos) (wAug i g t) := by
  -- the reading in place, as an operator by values
  refine ⟨fun pins s σ H Dd I ⟨O, pa, Fz, ρ, E, r, q, k1, _⟩ => ?_⟩
  unfold wAug at q
  split at q
  · rename_i d hd
    obtain ⟨v, h1, h2⟩ := r.slot i _ hd
    have hp : PIp X op fun x y H Q => ∃ (O' : Addr → Prop) (pa' : PAd) (d1 d2 : D) (Q' : D → Prop), (∀ b, O' b → H b ≠ none) ∧ (∀ b, isP pa' b → O' b) ∧ BRep X.w X.K pa' O' H x d1 ∧ BRep X.w X.K pa' O' H y d2 ∧ g d1 d2 Q' ∧ ∀ d', Q' d' → ∀ v H', Ext pa' H H' → Rep X.w X.K O' H' v d' → Q v H' := by
      intro pins s σ H x y v u Q I r1 r2 ⟨O', pa', d1, d2, Q', a1, a2, a3, a4, a5, a6⟩
      exact thn (ho pins s σ H x y v u O' pa' d1 d2 Q' I r1 r2 a1 a2 a3 a4 a5) fun z s2 ⟨zv, H2, I2, r3, d', q3, e3, b3⟩ => ⟨zv, H2, I2, r3, a6 d' q3 zv H2 e3 b3⟩
    refine (ps_aug hN hi hx he hp hf).run pins s σ H Dd I ⟨v, h1, O, pa, ρ, _, r.toER, q, fun e he v2 H1 x rp => ⟨Ow O pa ρ σ, pa, d, e, _, (r.ext x).toER.domW, ow_pa, (Rep.ext ow_pa x h2).br, rp, he, fun d' hd' v3 H2 x2 rp2 => k1 _ hd' _ _ (((r.ext x).ext x2).set rp2)⟩⟩
  · exact q.elim
theorem od_iadd : OpD X (inplaceOp .Add) (gInt (fun _ _ => True) fun i j => .int (i + j)) := OpD.int0 iop_add fun _ _ _ _ _ _ => .int _
theorem od_isub : OpD X (inplaceOp .Sub) (gInt (fun _ _ => True) fun i j => .int (i - j)) := OpD.int0 iop_sub fun _ _ _ _ _ _ => .int _
theorem od_imul : OpD X (inplaceOp .Mult) (gInt CMul fun i j => .int (i * j)) := OpD.int iop_mul fun _ _ _ _ _ _ => .int _
end
end DL

namespace DL
open PySem PySem.Spec L2
open PyProof.Rows hiding St

/-! ### equality of data decides -/
mutual
def deq : D → D → Bool
  | .none, .none => true
  | .bool a, .bool b => a == b
  | .int a, .int b => a == b
  | .str a, .str b => decide (a = b)
  | .list a, .list b => deqs a b
  | .tuple a, .tuple b => deqs a b
  | .dict a, .dict b => deqk a b
  | _, _ => false
def deqs : List D → List D → Bool
  | [], [] => true
  | x :: xs, y :: ys => deq x y && deqs xs ys
  | _, _ => false
def deqk : List (D × D) → List (D × D) → Bool
  | [], [] => true
  | (x, u) :: xs, (y, v) :: ys => deq x y && deq u v && deqk xs ys
  | _, _ => false
end
mutual
theorem deq_iff : ∀ (a b : D), deq a b = true ↔ a = b
  | .none, b => by cases b <;> simp [deq]
  | .bool x, b => by cases b <;> simp [deq]
  | .int x, b => by cases b <;> simp [deq]
  | .str x, b => by cases b <;> simp [deq]
  | .list x, b => by cases b <;> simp [deq, deqs_iff x]
  | .tuple x, b => by cases b <;> simp [deq, deqs_iff x]
  | .dict x, b => by cases b <;> simp [deq, deqk_iff x]
theorem deqs_iff : ∀ (a b : List D), deqs a b = true ↔ a = b
  | [], b => by cases b <;> simp [deqs]
  | x :: xs, b => by cases b <;> simp [deqs, deq_iff x, deqs_iff xs]
theorem deqk_iff : ∀ (a b : List (D × D)), deqk a b = true ↔ a = b
  | [], b => by cases b <;> simp [deqk]
  | (x, u) :: xs, [] => by simp [deqk]
  | (x, u) :: xs, (y, v) :: ys => by simp [deqk, deq_iff x, deq_iff u, deqk_iff xs, and_assoc]
end
instance : DecidableEq D := fun a b => if h : deq a b = true then isTrue ((deq_iff a b).mp h) else isFalse fun e => h ((deq_iff a b).mpr e)

section
variable {X : Cx} {a b e o : Expr} {pos p : Pos} {ta tb t : Wx}
/-! ### x in xs -/
@[simp] def gInB (neg : Bool) : G2 := fun d e Q => match e with
  | .list xs => d.canLay0 = true ∧ PyData.canLayAll0 xs = true ∧ d.depth ≤ 60 ∧ Q (.bool (if neg then !(xs.any fun y => PyData.eqv y d) else xs.any fun y => PyData.eqv y d))
  | .tuple xs => d.canLay0 = true ∧ PyData.canLayAll0 xs = true ∧ d.depth ≤ 60 ∧ Q (.bool (if neg then !(xs.any fun y => PyData.eqv y d) else xs.any fun y => PyData.eqv y d))
  | _ => False
@[simp] def gIn : G2 := gInB false
@[simp] def gNotIn : G2 := gInB true
theorem od_in (hu : X.A.units + 64 < cLine) : OpD X (compareOp .In) gIn := by
  intro pins s σ H x y v u W pa d e Q' I rx ry hW hP hx hy hg
  unfold gIn gInB at hg
  split at hg
  · obtain ⟨c1, c2, c3, q⟩ := hg
    obtain ⟨as, r1⟩ := Dp.reads I d x v (hx.dp c1) rx
    obtain ⟨bs, r2⟩ := Dp.reads I _ y u (hy.dp (by simpa [PyData.canLay0] using c2)) ry
    exact SeqAt.in_list_reads r2 r1 c2 c1 (by omega) ⟨.bl _, H, I, rfl, _, q, Ext.refl _ _, .bl _⟩
  · obtain ⟨c1, c2, c3, q⟩ := hg
    obtain ⟨as, r1⟩ := Dp.reads I d x v (hx.dp c1) rx
    obtain ⟨bs, r2⟩ := Dp.reads I _ y u (hy.dp (by simpa [PyData.canLay0] using c2)) ry
    exact SeqAt.in_tuple_reads r2 r1 c2 c1 (by omega) ⟨.bl _, H, I, rfl, _, q, Ext.refl _ _, .bl _⟩
  · exact hg.elim
theorem od_notIn (hu : X.A.units + 64 < cLine) : OpD X (compareOp .NotIn) gNotIn := by
  intro pins s σ H x y v u W pa d e Q' I rx ry hW hP hx hy hg
  unfold gNotIn gInB at hg
  split at hg
  · obtain ⟨c1, c2, c3, q⟩ := hg
    obtain ⟨as, r1⟩ := Dp.reads I d x v (hx.dp c1) rx
    obtain ⟨bs, r2⟩ := Dp.reads I _ y u (hy.dp (by simpa [PyData.canLay0] using c2)) ry
    exact SeqAt.notIn_list_reads r2 r1 c2 c1 (by omega) ⟨.bl _, H, I, rfl, _, q, Ext.refl _ _, .bl _⟩
  · obtain ⟨c1, c2, c3, q⟩ := hg
    obtain ⟨as, r1⟩ := Dp.reads I d x v (hx.dp c1) rx
    obtain ⟨bs, r2⟩ := Dp.reads I _ y u (hy.dp (by simpa [PyData.canLay0] using c2)) ry
    exact SeqAt.notIn_tuple_reads r2 r1 c2 c1 (by omega) ⟨.bl _, H, I, rfl, _, q, Ext.refl _ _, .bl _⟩
  · exact hg.elim

/-! ### isinstance(x, T) -/
@[simp] def tyD : D → String
  | .none => "NoneType"
  | .bool _ => "bool"
  | .int _ => "int"
  | .str _ => "str"
  | .list _ => "list"
  | .tuple _ => "tuple"
  | .dict _ => "dict"
@[simp] def isiD (T : String) (d : D) : Bool := tyD d == T || (T == "int" && tyD d == "bool")
theorem kit_data {pins : List (Addr × Obj)} {s : Shared} {σ : St} {H : Hp} {W : Addr → Prop} {pa : PAd} {x : V} {u : Value} {d : D} (I : Inv X pins σ H s) (rx : RelV x u) (r : BRep X.w X.K pa W H x d) :
    ∃ P : Heap → Prop, PySem.W.KitX X.K u (.type (tyD d)) P ∧ P s.heap ∧ u ≠ .builtin "__main__.__loader__#opaque" := by
  have dct : ∀ {a : Addr} {ks : List D} {vs : List V}, DctIn X.w X.K W H a ks vs → ∃ P : Heap → Prop, PySem.W.KitX X.K (.ref a) (.type "dict") P ∧ P s.heap ∧ (Value.ref a) ≠ .builtin "__main__.__loader__#opaque" := fun {a ks vs} h => by
    obtain ⟨_, _, _, as, _, e⟩ := h
    obtain ⟨⟨us, o, es, ep, _, h1, h2, _⟩, _⟩ := (show ObjOk X.prog X.w H s.heap a (.ext (dφ X.w a ks as vs)) from I.hok a _ e)
    exact ⟨_, PySem.W.kitx_dict, ⟨o, h1, h2.1⟩, fun z => nomatch z⟩
  rcases r with r | ⟨a, xs, ds', rfl, rfl, h3, h4, h5, h6⟩ | ⟨a, ks, vs, ds, rfl, rfl, h3, h4, h5⟩
  · cases r with
    | non => exact kit_of I rx (.base .non)
    | bl b => exact kit_of I rx (.base (.bl b))
    | int b => exact kit_of I rx (.base (.int b))
    | str b => exact kit_of I rx (.base (.str b))
    | lst h r z => exact kit_of I rx (.base (.lst h.2))
    | tup h r z =>
      rcases h with ⟨_, h | ⟨o, h⟩⟩ | ⟨o, its, n, h1, h2, _⟩
      · exact kit_of I rx (.base (.tup h))
      · exact kit_of I rx (.fTuple h)
      · exact kit_of I rx (.kTuple h1 h2)
    | dct h r => cases rx; exact dct h.2
    | dcs h e r => exact kit_of I rx (.base (.dK e))
  · exact kit_of I rx (.base (.lst h4))
  · cases rx; exact dct h4
@[simp] def wIsi (T : String) (t : Wx) : Wx := fun ρ Q => t ρ fun d => Q (.bool (isiD T d))
theorem q_isi {T : String} {x : Str} {px : Pos} (hT : ∀ S : String, S ∈ ["NoneType", "bool", "int", "str", "list", "tuple", "dict"] → kitB S T = some (S == T || (T == "int" && S == "bool"))) (hg : Gl X "isinstance") (hm : X.mg "isinstance" = none) (hg2 : Gl X x) (hm2 : X.mg x = none) (hv : bootBuiltins x = some (.type T))
    (ha : QB X a ta) (hn : x ≠ "__name__" := by decide) (hdb : (x == ("__debug__" : Str)) = false := by decide)
    (he : starEach [a, .Name x px] X.env = (false, eval a X.env) :: starEach [.Name x px] X.env := by rfl) (he2 : starEach [.Name x px] X.env = (false, eval (.Name x px) X.env) :: starEach [] X.env := by rfl) (hpl : (backTo pos (starEach [.Name x px] X.env)).any (·.1) = false := by rfl) :
    QE X (.Call (.Name "isinstance" p) [a, .Name x px] [] pos) (wIsi T ta) := by
  refine ⟨fun pins s σ H Q I ⟨O, pa, ρ, Q', r, q, k⟩ => ?_⟩
  refine wpAny_Call_Name_kw (ld_blt I hg hm (by decide +kernel : bootBuiltins "isinstance" = some (.builtin "isinstance")) ?_)
  have args : PA X [a, .Name x px] (tCons (tB X.w X.K ta) (tCons (tC (.ty T)) tNil)) := pa_cons ha (pa_cons (pe_bltn hg2 hm2 hv rfl hn hdb) pa_nil he2) he
  refine PyProof.Rows.callWith_builtin1 (thn (args.run pos pins s σ H (fun vs H1 => ∃ v d, vs = [v, .ty T] ∧ Q' (.bool (isiD T d)) ∧ Ext pa H H1 ∧ BRep X.w X.K pa (Ow O pa ρ σ) H1 v d) I ⟨O, pa, ρ, _, r, q, fun d hd v H1 x rp => ⟨v, d, rfl, hd, x, rp⟩⟩) fun us s1 ⟨vs, H1, I1, r1, v, d, e1, q1, x1, b1⟩ => ?_) he hpl
  subst e1
  obtain ⟨u1, u2, rfl, rv, ru⟩ := vals2 r1
  cases ru
  obtain ⟨P, Z, hp, hx⟩ := kit_data I1 rv b1
  have e : PySem.W.kitOne X.K (.type (tyD d)) (.type T) = some (isiD T d) := kit_ty (hT (tyD d) (by cases d <;> simp [tyD]))
  exact PySem.W.kia_one Z I1.kIn hp e hx fun tk => ⟨.bl _, H1, I1.tok tk, rfl, k _ q1 _ _ x1 (.bl _)⟩

/-! ### sep.join(xs) -/
def strsD : List D → Option (List Str)
  | [] => some []
  | .str i :: ds => (strsD ds).map (i :: ·)
  | _ => none
theorem strsD_rep {w : World} {K : PySem.W.Frag} {W : Addr → Prop} {H : Hp} : ∀ {ds : List D} {vs : List V} {ns : List Str}, RepA w K W H vs ds → strsD ds = some ns → vs = ns.map V.str
  | [], _, ns, h, e => by
    cases h
    simp [strsD] at e
    subst e
    rfl
  | d :: ds, _, ns, h, e => by
    cases h with
    | cons h1 h2 =>
      cases d with
      | str i =>
        simp only [strsD, Option.map_eq_some_iff] at e
        obtain ⟨m, e1, rfl⟩ := e
        cases h1
        rw [strsD_rep h2 e1]
        rfl
      | _ => simp [strsD] at e
theorem strsD_map (ns : List Str) : strsD (ns.map .str) = some ns := by
  induction ns with
  | nil => rfl
  | cons n ns ih => simp [strsD, ih]
@[simp] def gJoin : G2
  | .str a, .list ds, Q => ∃ ys, strsD ds = some ys ∧ (ys.map (·.length)).sum + ys.length * a.length ≤ 16777216 ∧ Q (.str (Txt.join a ys))
  | .str a, .tuple ds, Q => ∃ ys, strsD ds = some ys ∧ (ys.map (·.length)).sum + ys.length * a.length ≤ 16777216 ∧ Q (.str (Txt.join a ys))
  | _, _, _ => False
@[simp] def wJoin (ta tb : Wx) : Wx := fun ρ Q => ta ρ fun x => (∃ a, x = .str a) ∧ tb ρ fun y => gJoin x y Q
theorem q_join {apos : Pos} (ho : QB X o ta) (he : QB X e tb) (hs : starEach [e] X.env = [(false, eval e X.env)] := by rfl) (hbase : attributeBase o "join" X.env (eval o X.env) = eval o X.env := by rfl) (hline : (apos.endLine == pos.line) = true := by rfl) :
    QE X (.Call (.Attribute o "join" apos) [e] [] pos) (wJoin ta tb) :=
  PE.imp (pe_join ho he hs hbase hline) fun σ H Q ⟨O, pa, ρ, Q', r, q, k⟩ => ⟨O, pa, ρ, _, r, q, fun d hd v H1 x rp => by
    obtain ⟨⟨a, rfl⟩, hd⟩ := hd
    cases rp.str
    refine ⟨⟨a, rfl⟩, O, pa, ρ, _, r.ext x, hd, fun d2 hd2 v2 H2 x2 rp2 => ?_⟩
    unfold gJoin at hd2
    split at hd2
    · rename_i e1
      cases e1
      obtain ⟨ys, e2, l, q2⟩ := hd2
      obtain ⟨p, xs, rfl, h1, h2, h3⟩ := rp2.list
      have := strsD_rep h2 e2
      subst this
      exact ⟨_, p, ys, rfl, rfl, .inl h1, l, k _ q2 _ _ (x.trans x2) (.str _)⟩
    · rename_i e1
      cases e1
      obtain ⟨ys, e2, l, q2⟩ := hd2
      obtain ⟨p, xs, rfl, h1, h2, h3⟩ := rp2.tuple
      have := strsD_rep h2 e2
      subst this
      exact ⟨_, p, ys, rfl, rfl, .inr h1, l, k _ q2 _ _ (x.trans x2) (.str _)⟩
    · exact hd2.elim⟩
end
end DL

namespace DL
open PySem PySem.Spec L2
open PyProof.Rows hiding St

/-! ### comprehensions of two clauses -/
@[simp] def lc2In (vs1 : List Nat) (g1 : Wg) (tt1 : Wt) (te : Wx) (ρ2 : Rho) : List D → List D → (List D → Prop) → Prop
  | [], acc, Q => Q acc
  | d :: ds, acc, Q => g1 d (wipeR ρ2 vs1) fun ρ3 => tt1 ρ3 fun b => if b = true then te ρ3 fun y => acc.length < 1000000 ∧ lc2In vs1 g1 tt1 te ρ2 ds (acc ++ [y]) Q else lc2In vs1 g1 tt1 te ρ2 ds acc Q
@[simp] def lc2W (vs : List Nat) (g : Wg) (tt : Wt) (wi1 : Wa) (vs1 : List Nat) (g1 : Wg) (tt1 : Wt) (te : Wx) (ρ : Rho) : List D → List D → (List D → Prop) → Prop
  | [], acc, Q => Q acc
  | d :: ds, acc, Q => g d (wipeR ρ vs) fun ρ2 => tt ρ2 fun b => if b = true then wi1 ρ2 fun es => lc2In vs1 g1 tt1 te ρ2 es acc fun acc' => lc2W vs g tt wi1 vs1 g1 tt1 te ρ ds acc' Q else lc2W vs g tt wi1 vs1 g1 tt1 te ρ ds acc Q
@[simp] def wfLc2 (wi : Wa) (vs : List Nat) (g : Wg) (tt : Wt) (wi1 : Wa) (vs1 : List Nat) (g1 : Wg) (tt1 : Wt) (te : Wx) : Wa := fun ρ Q => wi ρ fun ds => lc2W vs g tt wi1 vs1 g1 tt1 te ρ ds [] Q
@[simp] def wLc2 (wi : Wa) (vs : List Nat) (g : Wg) (tt : Wt) (wi1 : Wa) (vs1 : List Nat) (g1 : Wg) (tt1 : Wt) (te : Wx) : Wx := fun ρ Q => wfLc2 wi vs g tt wi1 vs1 g1 tt1 te ρ fun acc => Q (.list acc)
/-- the list at D holds acc -/
structure Acc (w : World) (K : PySem.W.Frag) (pa : PAd) (W : Addr → Prop) (D : Addr) (H1 H2 : Hp) (acc : List DL.D) : Prop where
  ex : ∃ xs, H2 D = some (.lst xs) ∧ RepA w K (fun b => W b ∨ b = D) H2 xs acc
  le : acc.length ≤ sizeLine
  ext : Ext pa H1 H2
section
variable {w : World} {K : PySem.W.Frag} {pa : PAd} {W : Addr → Prop} {D : Addr} {H1 H2 H3 : Hp} {acc : List DL.D}
theorem Acc.step (a : Acc w K pa W D H1 H2 acc) (hW : ∀ b, isP pa b → W b) (nD : ¬ W D) (e : Ext pa H2 H3) : Acc w K pa W D H1 H3 acc := by
  obtain ⟨⟨xs, e1, r⟩, l, x⟩ := a
  exact ⟨⟨xs, e.1 _ _ (fun z => nD (hW D z)) e1, r.ext (fun b z => .inl (hW b z)) e⟩, l, x.trans e⟩
theorem Acc.add {y : V} {d : DL.D} (a : Acc w K pa W D H1 H2 acc) (hW : ∀ b, isP pa b → W b) (nD : ¬ W D) (hD : H1 D = none) (hl : acc.length < 1000000) (r : Rep w K (fun b => W b ∨ b = D) H2 y d) :
    ∃ xs, H2 D = some (.lst xs) ∧ xs.length < sizeLine ∧ Acc w K pa W D H1 (upd H2 D (.lst (xs ++ [y]))) (acc ++ [d]) := by
  obtain ⟨⟨xs, e1, ra⟩, l, x⟩ := a
  have sl := sizeLine_eq
  have k : ∀ b o, ¬ (W b ∨ b = D) → H2 b = some o → upd H2 D (.lst (xs ++ [y])) b = some o := fun b o n z => by rw [upd_ne (fun e => n (.inr e))]; exact z
  refine ⟨xs, e1, by rw [ra.length, sl]; omega, ⟨xs ++ [y], upd_same, (ra.mono (fun _ z => .inl z) k).append (.cons (r.mono (fun _ z => .inl z) k) .nil)⟩, by rw [List.length_append, List.length_singleton, sl]; omega, fun b o n z => ?_, fun a c hc p => ?_⟩
  · rw [upd_ne (ne_of_none z hD)]
    exact x.1 b o n z
  · obtain ⟨i', j', k', s', h1, h2⟩ := x.2 a c hc p
    exact ⟨i', j', k', s', by rw [upd_ne (fun e => nD (hW D ⟨c, by rw [← e]; exact hc⟩))]; exact h1, h2⟩
end
section
variable {X : Cx} {pos : Pos}
theorem lc2_readF {wi wi1 : Wa} {vs vs1 is is1 : List Nat} {g g1 : Wg} {tt tt1 : Wt} {te : Wx} (his : ∀ i ∈ is, i ∈ vs) (his1 : ∀ i ∈ is1, i ∈ vs1) {w : World} {K : PySem.W.Frag} {σ : St} {H : Hp} {Q : VK} (h : tF w K (wfLc2 wi vs g tt wi1 vs1 g1 tt1 te) σ H Q) :
    tLc2 (tI w K wi) (tG w K is g) (tT w K tt) (tI w K wi1) (tG w K is1 g1) (tT w K tt1) (tD w K te) vs vs1 σ H Q := by
  obtain ⟨O, pa, ρ, Q', r, q, k⟩ := h
  refine ⟨O, pa, ρ, _, r, q, fun ds hd J H1 x wd => ?_⟩
  intro D hD
  have r1 := r.ext x
  let W : Addr → Prop := Ow O pa ρ σ
  have hW : ∀ b, isP pa b → W b := ow_pa
  have nD : ¬ W D := fun z => r1.domW D z hD
  let O1 : Addr → Prop := fun b => W b ∨ b = D
  -- a block's relation at any heap behind
  have blk : ∀ {H2 : Hp} {acc}, Acc w K pa W D H1 H2 acc → ER w K O1 pa (wipeR ρ vs) (wipe σ vs) H2 := fun {H2 acc} a => by
    obtain ⟨⟨xs, e1, _⟩, _, e⟩ := a
    refine r1.block (fun b z => .inl z) (fun b z => z.elim .inl fun e => .inr (by rw [e]; exact hD)) (fun b z => z.elim ((r1.ext e).domW b) fun e => by rw [e, e1]; simp) e
  have keptW : ∀ {H2 : Hp} {acc}, Acc w K pa W D H1 H2 acc → Kept W H1 H2 := fun a => Ext.kept r1 a.ext
  have subW : ∀ b, Ow O1 pa (wipeR ρ vs) (wipe σ vs) b → O1 b := by
    rintro b (z | z | z)
    · exact z
    · exact .inl (ow_pa b z)
    · exact .inl (.inr (.inr (owns_wipe z)))
  refine ⟨fun i m H2 => i + m = ds.length ∧ ∃ acc, Acc w K pa W D H1 H2 acc ∧ lc2W vs g tt wi1 vs1 g1 tt1 te ρ (ds.drop i) acc Q', ⟨ds.length, by simp, [], ⟨⟨[], upd_same, .nil⟩, Nat.zero_le _, Ext.new hD⟩, by simpa using hd⟩, ?_⟩
  rintro i m H2 ⟨em, acc, ha, hl⟩
  have r2 : ER w K O pa ρ σ H2 := r1.ext ha.ext
  by_cases hi : i < ds.length
  · refine .inr ⟨wd.go H2 (keptW ha) i hi, fun H' => ∃ acc', Acc w K pa W D H1 H' acc' ∧ lc2W vs g tt wi1 vs1 g1 tt1 te ρ (ds.drop (i + 1)) acc' Q', fun H' g' => ⟨m - 1, by omega, by omega, g'⟩, fun y H3 hy => ?_⟩
    obtain ⟨sm, d, ed, rd⟩ := wd.yld H2 O1 (keptW ha) (fun b z => z.elim .inl fun e => .inr (by rw [e]; exact hD)) (fun b z => by
      have := (blk ha).dom b z
      exact this) i y H3 hi hy
    rw [drop_cons ed] at hl
    have ha3 := ha.step hW nD (Ext.of sm)
    have rb := blk ha3
    refine ⟨_, pa, wipeR ρ vs, d, _, rb, rd.mono (fun b z => .inl (subW b z)) (fun _ _ _ z => z), hl, fun ρ2 σ2 q2 s2 => ⟨(s2.wipe_eq his).trans wipe_wipe, ?_⟩⟩
    have rc := s2.er rb
    refine ⟨_, pa, ρ2, _, rc, q2, fun b hb H4 e4 => ?_⟩
    have ha4 := ha3.step hW nD e4
    have rc4 := rc.ext e4
    cases b with
    | false =>
      rw [if_neg Bool.false_ne_true] at hb
      exact iteF ⟨acc, ha4, hb⟩
    | true =>
      rw [if_pos rfl] at hb
      refine iteT ⟨_, pa, ρ2, _, rc4, hb, fun es hes J1 H5 e5 wd1 => ?_⟩
      have ha5 := ha4.step hW nD e5
      have rc5 := rc4.ext e5
      -- the inner loop
      have ow2 : ∀ b, Ow O1 pa ρ2 σ2 b → O1 b := fun b z => subW b (s2.ow b z)
      refine ⟨fun j m' H6 => j + m' = es.length ∧ ∃ acc', Acc w K pa W D H1 H6 acc' ∧ ER w K O1 pa ρ2 σ2 H6 ∧ Kept O1 H5 H6 ∧ lc2In vs1 g1 tt1 te ρ2 (es.drop j) acc' (fun acc' => lc2W vs g tt wi1 vs1 g1 tt1 te ρ (ds.drop (i + 1)) acc' Q'), ⟨es.length, by simp, acc, ha5, rc5, fun b o n z => z, by simpa using hes⟩, ?_⟩
      rintro j m' H6 ⟨em', acc', ha6, rc6, kp6, hl6⟩
      have kp6' : Kept (Ow O1 pa ρ2 σ2) H5 H6 := fun b o n z => kp6 b o (fun q => n (.inl q)) z
      by_cases hj : j < es.length
      · refine .inr ⟨wd1.go H6 kp6' j hj, fun H' => ∃ acc'', Acc w K pa W D H1 H' acc'' ∧ ER w K O1 pa ρ2 σ2 H' ∧ Kept O1 H5 H' ∧ lc2In vs1 g1 tt1 te ρ2 (es.drop (j + 1)) acc'' (fun acc' => lc2W vs g tt wi1 vs1 g1 tt1 te ρ (ds.drop (i + 1)) acc' Q'), fun H' g' => ⟨m' - 1, by omega, by omega, g'⟩, fun y1 H7 hy1 => ?_⟩
        obtain ⟨sm1, d1, ed1, rd1⟩ := wd1.yld H6 O1 kp6' (fun b z => .inl (.inl z)) (fun b z => rc6.dom b z) j y1 H7 hj hy1
        rw [drop_cons ed1] at hl6
        have ha7 := ha6.step hW nD (Ext.of sm1)
        have rc7 := rc6.ext (Ext.of sm1)
        have rb7 : ER w K O1 pa (wipeR ρ2 vs1) (wipe σ2 vs1) H7 := rc7.block (fun b z => ow2 b z) (fun b z => .inl (.inl z)) (fun b z => rc7.dom b z) (Ext.refl _ _)
        have ow3 : ∀ b, Ow O1 pa (wipeR ρ2 vs1) (wipe σ2 vs1) b → O1 b := by
          rintro b (z | z | z)
          · exact z
          · exact .inl (ow_pa b z)
          · exact ow2 b (.inr (.inr (owns_wipe z)))
        refine ⟨_, pa, _, d1, _, rb7, rd1.mono (fun b z => .inl (ow3 b z)) (fun _ _ _ z => z), hl6, fun ρ3 σ3 q3 s3 => ⟨(s3.wipe_eq his1).trans wipe_wipe, ?_⟩⟩
        have rd3 := s3.er rb7
        have ow4 : ∀ b, Ow O1 pa ρ3 σ3 b → O1 b := fun b z => ow3 b (s3.ow b z)
        refine ⟨_, pa, ρ3, _, rd3, q3, fun b hb H8 e8 => ?_⟩
        have kp8 : ∀ {H9}, Ext pa H7 H9 → Kept O1 H5 H9 := fun e b o n z => e.1 b o (fun q => n (.inl (ow_pa b q))) (sm1 _ _ (kp6 b o n z))
        cases b with
        | false =>
          rw [if_neg Bool.false_ne_true] at hb
          exact iteF ⟨acc', ha7.step hW nD e8, rc7.ext e8, kp8 e8, hb⟩
        | true =>
          rw [if_pos rfl] at hb
          refine iteT ⟨_, pa, ρ3, _, rd3.ext e8, hb, fun y2 hy2 v2 H9 e9 rp => ?_⟩
          have ha9 := (ha7.step hW nD e8).step hW nD e9
          obtain ⟨xs, z1, z2, z3⟩ := ha9.add hW nD hD hy2.1 (rp.mono (fun b z => .inl (.inl z)) fun _ _ _ z => z)
          refine ⟨xs, z1, z2, acc' ++ [y2], z3, ?_, fun b o n z => ?_, hy2.2⟩
          · have rc9 := (rc7.ext e8).ext e9
            -- only D was written, and D is O1's
            refine ⟨rc9.len, fun b z => ?_, fun a c hc => ?_, fun i' s' hs' => ?_⟩
            · by_cases q : b = D
              · rw [q, upd_same]; simp
              · rw [upd_ne q]; exact rc9.dom b z
            · obtain ⟨p1, ns, p2⟩ := rc9.pool a c hc
              refine ⟨?_, ns, p2.mono (fun _ z => .inl z) fun b o n z => by rw [upd_ne (fun e => n (.inl (.inr e)))]; exact z⟩
              obtain ⟨i', j', k', s', h1, h2⟩ := p1
              exact ⟨i', j', k', s', by rw [upd_ne (fun e => nD (hW D ⟨c, by rw [← e]; exact hc⟩))]; exact h1, h2⟩
            · obtain ⟨u, h1, h2⟩ := rc9.slot i' s' hs'
              refine ⟨u, h1, h2.mono (fun _ z => .inl z) (fun b o n z => by rw [upd_ne (fun e => n (.inl (.inr e)))]; exact z) fun so b o eu z np => ?_⟩
              rw [upd_ne (fun e => ?_)]
              · exact z
              · -- an own list of the frame is none of D's
                subst eu
                obtain ⟨c1, c2⟩ : ρ2[i']? = some (some s') ∧ σ2[i']? = some (some (.ref b)) := ⟨hs', h1⟩
                have : owns ρ σ b := by
                  have gen : ∀ {ρa σa}, Sets w K O1 pa H3 is (wipeR ρ vs) (wipe σ vs) ρa σa → owns ρa σa b → owns (wipeR ρ vs) (wipe σ vs) b := fun st => by
                    induction st with
                    | refl => exact id
                    | step _ _ _ ih => exact fun z => ih (owns_set z)
                  exact owns_wipe (gen s2 ⟨i', s', c1, so, c2⟩)
                exact nD (by rw [← e]; exact .inr (.inr this))
          · rw [upd_ne (fun e => n (.inr e))]
            exact kp8 (e8.trans e9) b o n z
      · have ej : j = es.length := by omega
        subst ej
        rw [List.drop_length] at hl6
        exact .inl ⟨wd1.stop H6 kp6', acc', ha6, hl6⟩
  · have ei : i = ds.length := by omega
    subst ei
    rw [List.drop_length] at hl
    obtain ⟨xs, e1, ra⟩ := ha.ex
    exact .inl ⟨wd.stop H2 (keptW ha), k acc hl D xs H2 (x.trans ha.ext) (ext_none x (fun b z => r1.domW b (ow_pa b z)) hD) e1 ra ha.le⟩
theorem q_lc2 {elt tg iter tg1 iter1 : Expr} {ifs ifs1 : List Expr} {scope : Scope} {own : List (Str × Nat)} {is is1 vs1 : List Nat} {wi wi1 : Wa} {g g1 : Wg} {tt tt1 : Wt} {te : Wx} (hN : X.N.Nodup) (hi : QI X tg iter wi) (ok : BlkOk X.N X.env.scope scope own)
    (hg : ∀ (s : Shared) (H : Hp) (C : Addr) (cl : List (Str × Addr)) (fp : List Addr), QG (X.blk s H scope (compEnvC scope cl C X.env) fp) tg is g) (ht : ∀ (s : Shared) (H : Hp) (C : Addr) (cl : List (Str × Addr)) (fp : List Addr), QTs (X.blk s H scope (compEnvC scope cl C X.env) fp) ifs tt)
    (hi1 : ∀ (s : Shared) (H : Hp) (C : Addr) (cl : List (Str × Addr)) (fp : List Addr), QI (X.blk s H scope (compEnvC scope cl C X.env) fp) tg1 iter1 wi1)
    (hg1 : ∀ (s : Shared) (H : Hp) (C : Addr) (cl : List (Str × Addr)) (fp : List Addr), QG (X.blk s H scope (compEnvC scope cl C X.env) fp) tg1 is1 g1) (ht1 : ∀ (s : Shared) (H : Hp) (C : Addr) (cl : List (Str × Addr)) (fp : List Addr), QTs (X.blk s H scope (compEnvC scope cl C X.env) fp) ifs1 tt1)
    (he : ∀ (s : Shared) (H : Hp) (C : Addr) (cl : List (Str × Addr)) (fp : List Addr), QE (X.blk s H scope (compEnvC scope cl C X.env) fp) elt te) (his : ∀ i ∈ is, i ∈ own.map (·.2) := by decide) (his1 : ∀ i ∈ is1, i ∈ vs1 := by decide) (hv : ∀ i ∈ vs1, i ∈ own.map (·.2) := by decide)
    (hc : X.calm = true := by rfl) (hs : ∀ x, foldedSetIterable iter X.env x = pure x := by intro _; rfl) (hs1 : ∀ env x, foldedSetIterable iter1 env x = pure x := by intro _ _; rfl) :
    QE X (.ListComp elt [⟨tg, iter, ifs, 0⟩, ⟨tg1, iter1, ifs1, 0⟩] scope pos) (wLc2 wi (own.map (·.2)) g tt wi1 vs1 g1 tt1 te) :=
  PE.imp (pe_lc2 hc hN hi ok hv hg ht hi1 hg1 ht1 he hs hs1) fun _ _ _ h => lc2_readF his his1 (tF_of h)

/-! ### a written dict of texts -/
theorem gU_read {w : World} {K : PySem.W.Frag} : True := trivial
/-- (a, b, ..) = a tuple, or a list -/
@[simp] def gU (gs : List Wg) : Wg := fun d ρ Q => match d with
  | .list ds => ds.length = gs.length ∧ gTs gs ds ρ Q
  | _ => False
theorem g_unl {es : List Expr} {k : Nat} {is : List Nat} {gs : List Wg} (h : QGs X es is gs) (hc : X.calm = true := by rfl)
    (hn : (assignEach es X.env).length = gs.length := by rfl) (hst : (assignEach es X.env).findIdx? (·.1) = none := by rfl) : QG X (.Tuple es k pos) is (gU gs) := by
  refine PG.imp (pg_unl (n := gs.length) hc h.run hn hst) fun v σ H Q ⟨O, pa, ρ, d, Q', r, x, q, k⟩ => ?_
  cases x with
  | lst h1 h2 h3 => exact ⟨_, _, rfl, h1.sq, by rw [h2.length]; exact q.1, O, pa, ρ, _, Q', r, h2, q.2, k⟩
  | non => exact q.elim
  | bl => exact q.elim
  | int => exact q.elim
  | str => exact q.elim
  | tup => exact q.elim
  | dct => exact q.elim
  | dcs => exact q.elim
def trsC : List (Str × Str) → List (TE × TE)
  | [] => []
  | (k, v) :: r => (tC (.str k), tC (.str v)) :: trsC r
def dispC (kvs : List (Str × Str)) : D := .dict (kvs.map fun p => (.str p.1, .str p.2))
theorem tPairs_C (kvs : List (Str × Str)) (σ : St) (H : Hp) (Q : List (V × V) → Hp → Prop) (h : Q (kvs.map fun p => (V.str p.1, V.str p.2)) H) : tPairs (trsC kvs) σ H Q := by
  induction kvs generalizing Q with
  | nil => exact h
  | cons p r ih => exact ih _ h
theorem mergeK_nd : ∀ (kvs acc : List (Key × V)), (acc.map (·.1) ++ kvs.map (·.1)).Nodup → mergeK acc kvs = acc ++ kvs
  | [], acc, _ => by simp [mergeK]
  | p :: r, acc, h => by
    have n : (acc.any fun kv => decide (kv.1 = p.1)) = false := by
      rw [List.any_eq_false]
      intro x hx hd
      have hd' : x.1 = p.1 := by simpa using hd
      rw [List.nodup_append] at h
      exact h.2.2 x.1 (List.mem_map_of_mem hx) p.1 (by simp) hd'
    have e : putK acc p.1 p.2 = acc ++ [p] := by
      unfold putK
      rw [n]
      simp
    show mergeK (putK acc p.1 p.2) r = acc ++ p :: r
    rw [e, mergeK_nd r (acc ++ [p]) (by simpa using h)]
    simp
@[simp] def wDispC (kvs : List (Str × Str)) : Wx := fun _ Q => (kvs.map (·.1)).Nodup ∧ kvs.length ≤ 15 ∧ Q (dispC kvs)
theorem q_dispC {keys : List (Option Expr)} {values : List Expr} (kvs : List (Str × Str)) (h : PPs X pos keys values (trsC kvs)) (hall : keys.all (·.isSome) = true := by rfl) (hl : keys.length = values.length := by rfl) (h0 : keys ≠ [] := by simp)
    (h15 : keys.length ≤ 15 := by decide) : QE X (.Dict keys values pos) (wDispC kvs) :=
  PE.imp (pe_disp h hall hl h0 h15) fun σ H Q ⟨O, pa, ρ, Q', r, ⟨nd, l15, q⟩, k⟩ => by
    intro p hp
    refine tPairs_C kvs σ _ _ ⟨upd_same, kvs.map fun x => (Sum.inr x.1, V.str x.2), ?_, by simpa using l15, ?_⟩
    · rw [List.map_map]; rfl
    · rw [upd_upd, mergeK_nd _ [] (by
        rw [List.map_nil, List.nil_append, List.map_map]
        have : (kvs.map ((fun x : Key × V => x.1) ∘ fun x : Str × Str => (Sum.inr x.1, V.str x.2))) = (kvs.map (·.1)).map Sum.inr := by rw [List.map_map]; rfl
        rw [this]
        exact List.Pairwise.map _ (fun a b (h : a ≠ b) (e : (Sum.inr a : Key) = Sum.inr b) => h (Sum.inr.inj e)) nd), List.nil_append]
      have rr : ∀ l : List (Str × Str), RepA X.w X.K (Ow O pa ρ σ) (upd H p (.dK (kvs.map fun x => (Sum.inr x.1, V.str x.2)))) ((l.map fun x : Str × Str => ((Sum.inr x.1 : Key), V.str x.2)).map (·.2)) (l.map fun x => .str x.2) := by
        intro l
        induction l with
        | nil => exact .nil
        | cons a l ih => exact .cons (.str _) ih
      have e : dispC kvs = .dict (((kvs.map fun x : Str × Str => ((Sum.inr x.1 : Key), V.str x.2)).map fun p => keyD p.1).zip (kvs.map fun x => .str x.2)) := by
        unfold dispC
        rw [List.map_map, List.zip_map']
        rfl
      rw [e] at q
      exact k _ q _ _ (Ext.new hp) (.dcs (fun z => r.domW p z hp) upd_same (rr kvs))
/-- what stands under a key -/
def dlook (kvs : List (D × D)) (k : D) : Option D := (kvs.find? fun p => decide (p.1 = k)).map (·.2)
theorem dlook_zip_key : ∀ {kvs : List (Key × V)} {ds : List D} {w : World} {K : PySem.W.Frag} {W : Addr → Prop} {H : Hp} {k : Key} {d : D}, RepA w K W H (kvs.map (·.2)) ds → dlook ((kvs.map fun p => keyD p.1).zip ds) (keyD k) = some d → ∃ v, valV kvs k = some v ∧ Rep w K W H v d
  | [], ds, _, _, _, _, k, d, r, h => by
    cases r
    simp [dlook] at h
  | p :: kvs, [], _, _, _, _, k, d, r, h => by cases r
  | p :: kvs, e :: ds, w, K, W, H, k, d, r, h => by
    cases r with
    | cons r1 r2 =>
      have inj : ∀ a b : Key, keyD a = keyD b → a = b := fun a b e => by
        cases a <;> cases b <;> simp [keyD] at e <;> simp [e]
      unfold dlook at h
      rw [List.map_cons, List.zip_cons_cons, List.find?_cons] at h
      by_cases c : p.1 = k
      · rw [show decide (keyD p.1 = keyD k) = true by simp [c]] at h
        simp at h
        subst h
        exact ⟨p.2, by unfold valV; rw [List.find?_cons]; simp [c], r1⟩
      · rw [show decide (keyD p.1 = keyD k) = false by simp; exact fun e => c (inj _ _ e)] at h
        obtain ⟨v, h1, h2⟩ := dlook_zip_key (k := k) (d := d) r2 h
        refine ⟨v, ?_, h2⟩
        unfold valV at h1 ⊢
        rw [List.find?_cons]
        simp only [c, decide_false]
        exact h1
@[simp] def gDgetS : G2
  | .dict kvs, .str k, Q => ∃ d, dlook kvs (.str k) = some d ∧ Q d
  | _, _, _ => False
theorem KAll.tup {K : PySem.W.Frag} {O : Addr → Prop} {H : Hp} {as : List Addr} {ks : List D} (h : KAll K O H as ks) (k : Str) : PyData.str k ∉ ks := fun hm => by
  obtain ⟨i, hi, e⟩ := List.getElem_of_mem hm
  have hl : i < as.length := by rw [h.len]; exact hi
  have := h.all i as[i] (.str k) (List.getElem?_eq_getElem hl) (by rw [List.getElem?_eq_getElem hi, e])
  cases this
/-- d[k] of a dict with texts for keys -/
theorem q_dgetS {o i : Expr} {to ti : Wx} (hu : X.A.units + 1 < cLine) (ho : QE X o to) (hi : QE X i ti) (hs : NoSl i := by exact fun _ _ => rfl) : QE X (.Subscript o i pos) (w2 gDgetS to ti) :=
  PE.imp (pe_dget hu ho hi hs) fun σ H Q ⟨O, pa, ρ, Q', r, q, k⟩ => ⟨O, pa, ρ, _, r, q, fun d hd v H1 x rp => ⟨O, pa, ρ, _, r.ext x, hd, fun d2 hd2 v2 H2 x2 rp2 => by
    have rp' := rp.ext ow_pa x2
    unfold gDgetS at hd2
    split at hd2
    · obtain ⟨d3, e3, q3⟩ := hd2
      cases rp2
      cases rp' with
      | dct h1 h2 =>
        obtain ⟨_, _, _, _, as, ka, _⟩ := h1
        unfold dlook at e3
        rw [Option.map_eq_some_iff] at e3
        obtain ⟨p, e4, _⟩ := e3
        have hm := List.mem_of_find?_eq_some e4
        have hp := List.find?_some e4
        have e5 : p.1 = .str _ := of_decide_eq_true hp
        exact (ka.tup _ (by rw [← e5]; exact (List.of_mem_zip (show (p.1, p.2) ∈ _ from hm)).1)).elim
      | dcs h1 h2 h3 =>
        obtain ⟨u, h4, h5⟩ := dlook_zip_key (k := Sum.inr _) h3 e3
        exact ⟨_, u, rfl, .inl ⟨_, Sum.inr _, .inl h2, rfl, h4.symm⟩, k _ q3 u H2 (x.trans x2) h5⟩
    · exact hd2.elim⟩⟩
end
end DL

namespace DL
open PySem PySem.Spec L2
open PyProof.Rows hiding St

/-! ### a def of the text, whole: where it stands and what it promises -/
structure FnD (P : Program) (w : World) (K : PySem.W.Frag) (mg : Str → Option Value) (base : Heap) (k : Nat) (x : Str) (n : Nat) (W : GC) : Prop where
  ex : ∃ f fd ps, mg x = some (.ref f) ∧ PySem.W.keepIn K (.ref f) = true ∧ Binds K fd ps [] ∧ FnOk P w K mg base CX0 k f fd ps (spD w K n W)
structure FnP (P : Program) (w : World) (K : PySem.W.Frag) (mg : Str → Option Value) (base : Heap) (k : Nat) (x : Str) (n : Nat) (W : GC) : Prop where
  ex : ∃ f fd ps, mg x = some (.ref f) ∧ PySem.W.keepIn K (.ref f) = true ∧ Binds K fd ps [] ∧ FnOk P w K mg base CX0 k f fd ps (spP w K n W)
section
variable {X : Cx} {e : Expr} {es : List Expr} {pos p : Pos} {k j n : Nat} {x : Str} {W : GC} {t : Wa}
theorem q_callF (F : FnD X.prog X.w X.K X.mg X.base k x n W) (hr : Room k X.A) (hg : Gl X x)
    (ha : QA X (e :: es) t) (hdb : (x == ("__debug__" : Str)) = false := by decide) (he : starEach (e :: es) X.env = (false, eval e X.env) :: starEach es X.env := by rfl) (hpl : (backTo pos (starEach es X.env)).any (·.1) = false := by rfl) :
    QE X (.Call (.Name x p) (e :: es) [] pos) (wCall n W t) := by
  obtain ⟨f, fd, ps, hm, hk, hb, F⟩ := F.ex
  exact q_call F hr hg hm hk hb ha hdb he hpl
theorem q_callFP {i : Nat} {y : Str} {py : Pos} (F : FnP X.prog X.w X.K X.mg X.base k x n W) (hr : Room k X.A) (hg : Gl X x)
    (ha : QA X es t) (hN : X.N[i]? = some y := by rfl) (hv : Vis X.env.scope y := by first | exact Or.inl rfl | exact Or.inr (Or.inl rfl) | exact Or.inr (Or.inr rfl)) (hd : (y == ("__debug__" : Str)) = false := by decide)
    (hcd : (y == ("__classdict__" : Str)) = false := by decide) (hdb : (x == ("__debug__" : Str)) = false := by decide)
    (he : starEach (.Name y py :: es) X.env = (false, eval (.Name y py) X.env) :: starEach es X.env := by rfl) (hpl : (backTo pos (starEach es X.env)).any (·.1) = false := by rfl) :
    QE X (.Call (.Name x p) (.Name y py :: es) [] pos) (wCallP i n W t) := by
  obtain ⟨f, fd, ps, hm, hk, hb, F⟩ := F.ex
  exact q_callP F hr hg hm hk hb ha hN hv hd hcd hdb he hpl
end
section
variable {P : Program} {w : World} {K : PySem.W.Frag} {mg : Str → Option Value} {base : Heap} {k j n : Nat} {x : Str} {W W' : GC}
theorem FnD.mono (F : FnD P w K mg base k x n W) (h : k ≤ j) : FnD P w K mg base j x n W := by
  obtain ⟨f, fd, ps, a, b, c, d⟩ := F.ex
  exact ⟨f, fd, ps, a, b, c, d.mono h⟩
theorem FnP.mono (F : FnP P w K mg base k x n W) (h : k ≤ j) : FnP P w K mg base j x n W := by
  obtain ⟨f, fd, ps, a, b, c, d⟩ := F.ex
  exact ⟨f, fd, ps, a, b, c, d.mono h⟩
theorem FnD.imp (F : FnD P w K mg base k x n W) (h : ∀ ds Q, W' ds Q → W ds Q) : FnD P w K mg base k x n W' := by
  obtain ⟨f, fd, ps, a, b, c, d⟩ := F.ex
  exact ⟨f, fd, ps, a, b, c, d.imp fun vs H Q E ⟨O, ds, Q', h1, h2, h3, h4, h5⟩ => ⟨O, ds, Q', h1, h2, h3, h _ _ h4, h5⟩⟩
/-- where a def of the text stands, by the facts of the written part -/
structure At (K : PySem.W.Frag) (mg : Str → Option Value) (x : Str) (st : Stmt) : Prop where
  ex : ∃ f fd, mg x = some (.ref f) ∧ Fun K x x st f fd
theorem mk_fnD {st : Stmt} {N ps : List Str} {t : Ws} (A : At K mg x st) (S : FnScope N ps (defScope st)) (hn : ps.length = n)
    (bd : ∀ (kV doc pm : Value) (an : Option Addr) (cdv ct : Value) (us : List Value), us.length = ps.length → bindArgs (PySem.W.fnOf x x (defArgs st) (defBody st) (defScope st) .none kV doc pm an cdv ct) ⟨us, []⟩ = pure (ps.zip us))
    (body : ∀ (f : Addr) (cdv : Value) (A : Around) (outer : List Env) (s : Shared) (H : Hp) (E : XK), Room k (A.deeper (envOfC x (defScope st) s.heap.objs.size f cdv)) → QSs (cxOf CX0 P w K mg base N x (defScope st) f cdv A outer s H E).nox (defBody st) t)
    (read : ∀ ds Q', ds.length = n → W ds Q' → t { nx := fun _ => Q' .none, rt := Q' } (start0 N ds)) : FnD P w K mg base (k + 1) x n W := by
  subst hn
  obtain ⟨f, fd, hm, F⟩ := A.ex
  exact ⟨f, fd, ps, hm, F.kp, F.binds bd, fn_pure F S (body f) read⟩
theorem mk_fnP {st : Stmt} {N ps : List Str} {t : Ws} (A : At K mg x st) (S : FnScope N ps (defScope st)) (hn : ps.length = n)
    (bd : ∀ (kV doc pm : Value) (an : Option Addr) (cdv ct : Value) (us : List Value), us.length = ps.length → bindArgs (PySem.W.fnOf x x (defArgs st) (defBody st) (defScope st) .none kV doc pm an cdv ct) ⟨us, []⟩ = pure (ps.zip us))
    (body : ∀ (f : Addr) (cdv : Value) (A : Around) (outer : List Env) (s : Shared) (H : Hp) (E : XK), Room k (A.deeper (envOfC x (defScope st) s.heap.objs.size f cdv)) → QSs (cxOf CX0 P w K mg base N x (defScope st) f cdv A outer s H E).nox (defBody st) t)
    (read : ∀ ds Q', ds.length + 1 = n → W ds Q' → t { nx := fun _ => Q' .none, rt := Q' } (startP N ds)) : FnP P w K mg base (k + 1) x n W := by
  subst hn
  obtain ⟨f, fd, hm, F⟩ := A.ex
  exact ⟨f, fd, ps, hm, F.kp, F.binds bd, fn_draw F S (body f) read⟩
end
theorem kit_tuple : ∀ S : String, S ∈ ["NoneType", "bool", "int", "str", "list", "tuple", "dict"] → kitB S "tuple" = some (S == "tuple" || ("tuple" == "int" && S == "bool")) := by decide +kernel
theorem kit_list : ∀ S : String, S ∈ ["NoneType", "bool", "int", "str", "list", "tuple", "dict"] → kitB S "list" = some (S == "list" || ("list" == "int" && S == "bool")) := by decide +kernel
theorem kit_bool : ∀ S : String, S ∈ ["NoneType", "bool", "int", "str", "list", "tuple", "dict"] → kitB S "bool" = some (S == "bool" || ("bool" == "int" && S == "bool")) := by decide +kernel
theorem kit_int : ∀ S : String, S ∈ ["NoneType", "bool", "int", "str", "list", "tuple", "dict"] → kitB S "int" = some (S == "int" || ("int" == "int" && S == "bool")) := by decide +kernel
theorem kit_str : ∀ S : String, S ∈ ["NoneType", "bool", "int", "str", "list", "tuple", "dict"] → kitB S "str" = some (S == "str" || ("str" == "int" && S == "bool")) := by decide +kernel
/-! ### small operators -/
@[simp] def wNeg (t : Wx) : Wx := fun ρ Q => t ρ (onI fun i => Q (.int (-i)))
theorem q_neg {X : Cx} {a : Expr} {pos : Pos} {t : Wx} (h : QB X a t) : QE X (.UnaryOp .USub a pos) (wNeg t) :=
  PE.imp (pe_un un_neg h) fun σ H Q ⟨O, pa, ρ, Q', r, q, k⟩ => ⟨O, pa, ρ, _, r, q, fun d hd v H1 x rp => by
    obtain ⟨i, rfl, q⟩ := onI_iff hd
    cases rp.int
    exact ⟨i, rfl, k _ q _ _ x (.int _)⟩⟩
end DL

namespace DL
open PySem PySem.Spec L2
open PyProof.Rows hiding St

/-! ### sorted(xs): alike data -/
def sortD (xs : List D) : List D := xs.mergeSort (PySem.W.dataLe false id)
theorem sortD_perm (xs : List D) : (sortD xs).Perm xs := List.mergeSort_perm _ _
@[simp] theorem sortD_len (xs : List D) : (sortD xs).length = xs.length := (sortD_perm xs).length_eq
@[simp] def gSorted : GC
  | [.list xs], Q => PyData.canLayAll0 xs = true ∧ PySem.W.AllAlike xs ∧ PySem.W.Sortable xs ∧ (∀ d ∈ xs, d.depth ≤ 60) ∧ Q (.list (sortD xs))
  | _, _ => False
section
variable {X : Cx}
theorem each_reads {w : World} {W : Addr → Prop} {pins : List (Addr × Obj)} {s : Shared} {σ : St} {H : Hp} (I : Inv X pins σ H s) :
    ∀ {ds : List D} {xs : List V} {us : List Value}, RepA w X.K W H xs ds → PyData.canLayAll0 ds = true → Vals xs us → PySem.W.EachIs (fun v d => (∃ as, Reads s.heap v d as) ∧ ∃ x, RelV x v ∧ Rep w X.K W H x d) us ds
  | _, _, _, .nil, _, .nil => .nil
  | d :: ds, _, _, .cons r t, c, .cons rv rvs => by
    simp only [PyData.canLayAll0, Bool.and_eq_true] at c
    exact .cons ⟨Dp.reads I d _ _ (Rep.dp d r c.1) rv, _, rv, r⟩ (each_reads I t c.2 rvs)
theorem each_back {w : World} {K : PySem.W.Frag} {W : Addr → Prop} {H : Hp} : ∀ {us : List Value} {ds : List D}, PySem.W.EachIs (fun v d => ∃ x, RelV x v ∧ Rep w K W H x d) us ds → ∃ xs, Vals xs us ∧ RepA w K W H xs ds
  | _, _, .nil => ⟨[], .nil, .nil⟩
  | _, _, .cons ⟨x, h1, h2⟩ t => by
    obtain ⟨xs, h3, h4⟩ := each_back t
    exact ⟨x :: xs, .cons h1 h3, .cons h2 h4⟩
theorem cd_sorted (hu : X.A.units + 64 < cLine) : CallD X (.builtin "sorted") gSorted := by
  intro pins s σ H vs us W pa ds Q' I rv hW hP hb hg
  unfold gSorted at hg
  split at hg
  · rename_i xs
    obtain ⟨c1, c2, c3, c4, q⟩ := hg
    obtain ⟨v, rfl, b⟩ := hb.one
    obtain ⟨a, ys, rfl, h1, h2, h3⟩ := b.list
    obtain ⟨its, rv', hl, hz⟩ := I.list h1
    rw [Vals.ref1 rv]
    have ea := each_reads I h2 c1 rv'
    have sz : its.length ≤ sizeLine := by rw [← rv'.length]; exact hz
    have e1 : PySem.W.EachIs (fun v d => ∃ as, Reads (PySem.W.sortingHeap (PySem.W.copyHeap s.heap its) (s.heap.objs.size + 1) its) v d as) its xs :=
      ea.mono fun v d ⟨⟨as, r⟩, _⟩ => ⟨as, PyProof.Rows.Reads.keeps (fun b o e => PySem.W.sorting_copy_old e) r⟩
    refine PySem.W.sorted_vals hl.isList (PySem.W.SortsAt.data e1 c2 c3 fun d hd => ?_) sz ?_
    · show X.A.units + 1 + 1 + d.depth < cLine
      have := c4 d hd
      omega
    · have e2 := PySem.W.sortVals_each (κ := PySem.W.dataKind (PySem.W.sortingHeap (PySem.W.copyHeap s.heap its) (s.heap.objs.size + 1) its) xs) (rev := false) (fun d : D => PySem.W.keyToks d) (ea.mono fun v d h => h.2) (PySem.W.each_keys c2 e1)
      obtain ⟨zs, k1, k2⟩ := each_back e2
      obtain ⟨ep, he'⟩ := PyProof.Rows.sortedAll_at s.heap its (PySem.W.sortVals (PySem.W.dataKind (PySem.W.sortingHeap (PySem.W.copyHeap s.heap its) (s.heap.objs.size + 1) its) xs) false its its).toArray
      have hlen : zs.length = xs.length := by rw [k2.length]; exact sortD_len xs
      have hp : H (s.heap.objs.size + 1) = none := I.hok.fresh (Nat.le_succ _)
      exact ⟨.ref _, upd H (s.heap.objs.size + 1) (.lst zs), I.laid (t' := s.toks) (fun _ _ => PyProof.Rows.sortedAll_old) (Nat.le_succ _) ⟨by rw [hlen]; exact h3, _, ep, k1, he'⟩, rfl, .list (sortD xs), q, Ext.new hp, Rep.newL hW hp k2 (by show (sortD xs).length ≤ sizeLine; rw [sortD_len]; exact h3)⟩
  · exact hg.elim
end
end DL

namespace DL
open PySem PySem.Spec L2
open PyProof.Rows hiding St

/-! ### loops, by what they do to each item -/
theorem lcW_opt {α : Type} {vs : List Nat} {g : Wg} {tt : Wt} {te : Wx} {ρ : Rho} {Q : List D → Prop} (enc : α → D) (f : α → Option D) : ∀ (l : List α) (acc : List D),
    (∀ x ∈ l, ∀ Q' : Option D → Prop, Q' (f x) → g (enc x) (wipeR ρ vs) fun ρ2 => tt ρ2 fun b => if b = true then te ρ2 fun y => Q' (some y) else Q' none) →
    Q (acc ++ l.filterMap f) → lcW vs g tt te ρ (l.map enc) acc Q
  | [], acc, _, q => by simpa using q
  | x :: l, acc, h, q => by
    rw [List.map_cons]
    refine h x List.mem_cons_self (fun o => match o with | some y => lcW vs g tt te ρ (l.map enc) (acc ++ [y]) Q | none => lcW vs g tt te ρ (l.map enc) acc Q) ?_
    cases e : f x with
    | none => exact lcW_opt enc f l acc (fun y hy => h y (List.mem_cons_of_mem _ hy)) (by rw [List.filterMap_cons_none e] at q; exact q)
    | some y => exact lcW_opt enc f l _ (fun z hz => h z (List.mem_cons_of_mem _ hz)) (by rw [List.filterMap_cons_some e] at q; rw [List.append_assoc]; exact q)
theorem lcW_map {α : Type} {vs : List Nat} {g : Wg} {tt : Wt} {te : Wx} {ρ : Rho} {Q : List D → Prop} (enc : α → D) (f : α → D) (l : List α)
    (h : ∀ x ∈ l, ∀ Q' : Option D → Prop, Q' (some (f x)) → g (enc x) (wipeR ρ vs) fun ρ2 => tt ρ2 fun b => if b = true then te ρ2 fun y => Q' (some y) else Q' none)
    (q : Q (l.map f)) : lcW vs g tt te ρ (l.map enc) [] Q :=
  lcW_opt enc (fun x => some (f x)) l [] h (by rw [List.filterMap_eq_map']; simpa using q)
/-- what is drawn: only that each item is one of those that may be -/
theorem lcW_some {α : Type} {vs : List Nat} {g : Wg} {tt : Wt} {te : Wx} {ρ : Rho} {Q : List D → Prop} (enc : α → D) (Y : D → Prop) (l : List α)
    (h : ∀ x ∈ l, ∀ Q' : Option D → Prop, (∀ y, Y y → Q' (some y)) → g (enc x) (wipeR ρ vs) fun ρ2 => tt ρ2 fun b => if b = true then te ρ2 fun y => Q' (some y) else Q' none)
    (q : ∀ ys : List D, ys.length = l.length → (∀ y ∈ ys, Y y) → Q ys) : lcW vs g tt te ρ (l.map enc) [] Q := by
  have go : ∀ (l : List α) (acc : List D), (∀ x ∈ l, ∀ Q' : Option D → Prop, (∀ y, Y y → Q' (some y)) → g (enc x) (wipeR ρ vs) fun ρ2 => tt ρ2 fun b => if b = true then te ρ2 fun y => Q' (some y) else Q' none) →
      (∀ ys : List D, ys.length = l.length → (∀ y ∈ ys, Y y) → Q (acc ++ ys)) → lcW vs g tt te ρ (l.map enc) acc Q := by
    intro l
    induction l with
    | nil => intro acc _ q; have := q [] rfl (by simp); simpa using this
    | cons x l ih =>
      intro acc h q
      rw [List.map_cons]
      refine h x List.mem_cons_self (fun o => match o with | some y => lcW vs g tt te ρ (l.map enc) (acc ++ [y]) Q | none => lcW vs g tt te ρ (l.map enc) acc Q) fun y hy => ?_
      refine ih _ (fun z hz => h z (List.mem_cons_of_mem _ hz)) fun ys h1 h2 => ?_
      rw [List.append_assoc]
      exact q (y :: ys) (by simp [h1]) (by intro z hz; rcases List.mem_cons.mp hz with rfl | hz; exact hy; exact h2 z hz)
  exact go l [] h (by simpa using q)
theorem lc2In_map {β : Type} {vs1 : List Nat} {g1 : Wg} {tt1 : Wt} {te : Wx} {ρ2 : Rho} {Q : List D → Prop} (enc : β → D) (f : β → Option D) : ∀ (l : List β) (acc : List D), acc.length + l.length ≤ 1000000 →
    (∀ x ∈ l, ∀ Q' : Option D → Prop, Q' (f x) → g1 (enc x) (wipeR ρ2 vs1) fun ρ3 => tt1 ρ3 fun b => if b = true then te ρ3 fun y => Q' (some y) else Q' none) →
    Q (acc ++ l.filterMap f) → lc2In vs1 g1 tt1 te ρ2 (l.map enc) acc Q
  | [], acc, _, _, q => by simpa using q
  | x :: l, acc, hl, h, q => by
    rw [List.map_cons]
    simp only [List.length_cons] at hl
    have hx := h x List.mem_cons_self (fun o => match o with | some y => acc.length < 1000000 ∧ lc2In vs1 g1 tt1 te ρ2 (l.map enc) (acc ++ [y]) Q | none => lc2In vs1 g1 tt1 te ρ2 (l.map enc) acc Q)
    refine hx ?_
    cases e : f x with
    | none => exact lc2In_map enc f l acc (by omega) (fun y hy => h y (List.mem_cons_of_mem _ hy)) (by rw [List.filterMap_cons_none e] at q; exact q)
    | some y => exact ⟨by omega, lc2In_map enc f l _ (by rw [List.length_append, List.length_singleton]; omega) (fun z hz => h z (List.mem_cons_of_mem _ hz)) (by rw [List.filterMap_cons_some e] at q; rw [List.append_assoc]; exact q)⟩
theorem lc2W_map {α : Type} {vs : List Nat} {g : Wg} {tt : Wt} {wi1 : Wa} {vs1 : List Nat} {g1 : Wg} {tt1 : Wt} {te : Wx} {ρ : Rho} {Q : List D → Prop} (enc : α → D) (f : α → List D) (b : Nat) : ∀ (l : List α) (acc : List D), acc.length + l.length * b ≤ 1000000 → (∀ x ∈ l, (f x).length ≤ b) →
    (∀ x ∈ l, ∀ (acc : List D) (N : List D → Prop), acc.length + b ≤ 1000000 → N (acc ++ f x) → g (enc x) (wipeR ρ vs) fun ρ2 => tt ρ2 fun k => if k = true then wi1 ρ2 fun es => lc2In vs1 g1 tt1 te ρ2 es acc N else N acc) →
    Q (acc ++ l.flatMap f) → lc2W vs g tt wi1 vs1 g1 tt1 te ρ (l.map enc) acc Q
  | [], acc, _, _, _, q => by simpa using q
  | x :: l, acc, hl, hb, h, q => by
    rw [List.map_cons]
    simp only [List.length_cons] at hl
    have hx := hb x List.mem_cons_self
    have e : (l.length + 1) * b = l.length * b + b := Nat.succ_mul _ _
    refine h x List.mem_cons_self acc (fun acc' => lc2W vs g tt wi1 vs1 g1 tt1 te ρ (l.map enc) acc' Q) (by omega) ?_
    refine lc2W_map enc f b l _ (by rw [List.length_append]; omega) (fun z hz => hb z (List.mem_cons_of_mem _ hz)) (fun z hz => h z (List.mem_cons_of_mem _ hz)) ?_
    rw [List.append_assoc]
    exact q
/-- for x in xs: what is true before each turn -/
theorem forW_inv {α : Type} {g : Wg} {tb : Ws} {E : WE} (enc : α → D) (I : List α → Rho → Prop) : ∀ (l : List α) (ρ : Rho), I l ρ → (∀ ρ, I [] ρ → E.nx ρ) →
    (∀ x r ρ (N : Rho → Prop), (∃ p, l = p ++ x :: r) → I (x :: r) ρ → (∀ ρ', I r ρ' → N ρ') → g (enc x) ρ fun ρ2 => tb { E with nx := N, ct := N, bk := E.nx } ρ2) → forW g tb (l.map enc) E ρ
  | [], ρ, h, e, _ => e ρ h
  | x :: l, ρ, h, e, s => by
    rw [List.map_cons]
    exact s x l ρ _ ⟨[], rfl⟩ h fun ρ' h' => forW_inv enc I l ρ' h' e fun y r ρ N ⟨p, hp⟩ => s y r ρ N ⟨x :: p, by rw [hp]; rfl⟩
end DL

namespace DL
open PySem PySem.Spec L2
open PyProof.Rows hiding St

/-! ### the law's own head: the pool, its draws -/
def spPool (K : PySem.W.Frag) : Sp := fun vs H Q _ => ∃ (a0 : Addr) (ns : List Int), vs = [.ref a0] ∧ SqL K H a0 (ns.map V.int) ∧ ns.length ≤ 63 ∧
  ∀ H' a c, Same H H' → H a = none → PoolAt H' a c → H' c = some (.lst (ns.map V.int)) → a ≠ c → Q (.ref a) H'
structure FnPool (P : Program) (w : World) (K : PySem.W.Frag) (mg : Str → Option Value) (base : Heap) (k : Nat) (x : Str) : Prop where
  ex : ∃ f fd ps, mg x = some (.ref f) ∧ PySem.W.keepIn K (.ref f) = true ∧ Binds K fd ps [] ∧ FnOk P w K mg base CX0 k f fd ps (spPool K)
def spLaw (K : PySem.W.Frag) : Sp := fun vs H Q _ => ∃ (a : Addr) (ns : List Int), vs = [.ref a] ∧ SqL K H a (ns.map V.int) ∧ ns.length ≤ 63 ∧ ∀ H', Q (.bl true) H'
theorem seq_key {t u : TS} {D : Ends} {σ : St} {H : Hp} (Mid : St → Hp → Prop) (h2 : ∀ σ' H', Mid σ' H' → u D σ' H') (h1 : (∀ σ' H', Mid σ' H' → u D σ' H') → t { D with nx := u D } σ H) : tSeq t u D σ H := h1 h2
theorem ext_pool {a c : Addr} {H H' : Hp} {o : HO} (e : Ext (some (a, c)) H H') (p : PoolAt (upd H' a o) a c) : Ext (some (a, c)) H (upd H' a o) :=
  ⟨fun b u n z => by rw [upd_ne (fun q => n (isP_some.mpr q))]; exact e.1 b u n z, fun a' c' q _ => by cases q; exact p⟩
theorem law_enter {w : World} {K : PySem.W.Frag} {t : Ws} {Dd : Ends} {σ : St} {H : Hp} {p c : Addr} {ns : List Int} {k : Nat} (hp : PoolAt H p c) (hc : H c = some (.lst (ns.map V.int))) (ne : p ≠ c) (h1 : σ.length = k + 2) (h2 : σ[1]? = some (some (.ref p)))
    (hD : ∀ H', Dd.rt (.bl true) H') (read : t { nx := fun _ => False, rt := fun d => d = .bool true } (none :: some .pl :: List.replicate k none)) : tS w K t Dd σ H := by
  have sl : ∀ (i : Nat) s, (none :: some Sl.pl :: List.replicate k (none : Option Sl))[i]? = some (some s) → i = 1 ∧ s = .pl := by
    intro i s h
    match i with
    | 0 => simp at h
    | 1 => simp at h; exact ⟨rfl, h.symm⟩
    | i + 2 =>
      rw [List.getElem?_cons_succ, List.getElem?_cons_succ, List.getElem?_replicate] at h
      split at h <;> simp at h
  have now : ∀ b, ¬ owns (none :: some Sl.pl :: List.replicate k (none : Option Sl)) σ b := fun b ⟨i, s, e1, e2, _⟩ => by
    rw [(sl i s e1).2] at e2
    cases e2
  refine ⟨fun _ => False, some (p, c), fun _ => none, _, _, ⟨⟨by simp [h1], fun b z => z.elim, fun a' c' e => ?_, fun i s e => ?_⟩, fun b o z => (nomatch z), fun b z => rfl, fun i j s t b e1 e2 => ?_, fun b z => rfl, fun b z => z.elim⟩, read, fun ρ' q => q.elim, fun d hd v H' _ _ rp => ?_, fun ρ' q => q.elim, fun ρ' q => q.elim⟩
  · cases e
    refine ⟨hp, ns, ?_, hc⟩
    rintro (z | z | z)
    · exact z
    · exact ne (isP_some.mp z).symm
    · exact now _ z
  · obtain ⟨rfl, rfl⟩ := sl i s e
    exact ⟨.ref p, h2, p, c, rfl, rfl⟩
  · rw [(sl i s e1).2] at e2; cases e2
  · subst hd
    cases rp
    exact hD H'
theorem fnD_false {P : Program} {w : World} {K : PySem.W.Frag} {mg : Str → Option Value} {base : Heap} {x : Str} {st : Stmt} {N ps : List Str} {n : Nat} (A : At K mg x st) (S : FnScope N ps (defScope st)) (hn : ps.length = n)
    (bd : ∀ (kV doc pm : Value) (an : Option Addr) (cdv ct : Value) (us : List Value), us.length = ps.length → bindArgs (PySem.W.fnOf x x (defArgs st) (defBody st) (defScope st) .none kV doc pm an cdv ct) ⟨us, []⟩ = pure (ps.zip us)) : FnD P w K mg base 0 x n (fun _ _ => False) := by
  obtain ⟨f, fd, hm, F⟩ := A.ex
  exact ⟨f, fd, ps, hm, F.kp, F.binds bd, ⟨fun vs H Q E ⟨O, ds, Q', h1, h2, h3, h4, h5⟩ => h4.elim, fun A outer s H args us vs Q E hr he hb hv ⟨O, ds, Q', h1, h2, h3, h4, h5⟩ => h4.elim⟩⟩
theorem at_of {K : PySem.W.Frag} {mg : Str → Option Value} {x : Str} {st : Stmt} {f : Addr} {fd : FuncData} (h : mg x = some (.ref f)) (F : Fun K x x st f fd) : At K mg x st := ⟨f, fd, h, F⟩
end DL

namespace DL
open PySem PySem.Spec L2
open PyProof.Rows hiding St

section
variable {X : Cx} {a : Expr} {p p2 pos pos2 : Pos} {ta : Wx}
@[simp] def wListRg (ta : Wx) : Wx := fun ρ Q => ta ρ (onI fun j => -1000000 ≤ j ∧ j ≤ 1000000 ∧ Q (.list (rgD 0 j.toNat)))
theorem rep_rg {w : World} {K : PySem.W.Frag} {W : Addr → Prop} {H : Hp} (n : Nat) (lo : Int) : RepA w K W H ((List.range n).map fun (i : Nat) => V.int (lo + (i : Nat))) (rgD lo n) := by
  unfold rgD
  generalize List.range n = l
  induction l with
  | nil => exact .nil
  | cons x l ih => exact .cons (.int _) ih
theorem q_listRg (hg1 : Gl X "list") (hm1 : X.mg "list" = none) (hg2 : Gl X "range") (hm2 : X.mg "range" = none) (ha : QB X a ta) (hc : X.calm = true := by rfl)
    (na : starEach [a] X.env = (false, eval a X.env) :: starEach [] X.env := by rfl) (na2 : starEach [.Call (.Name "range" p2) [a] [] pos2] X.env = (false, eval (.Call (.Name "range" p2) [a] [] pos2) X.env) :: starEach [] X.env := by rfl) :
    QE X (.Call (.Name "list" p) [.Call (.Name "range" p2) [a] [] pos2] [] pos) (wListRg ta) :=
  PE.imp (pe_listRg hc hg1 hm1 (prg_1 hg2 hm2 ha na) na2) fun σ H Q ⟨O, pa, ρ, Q', r, q, k⟩ => ⟨O, pa, ρ, _, r, q, fun d hd v H1 x b => by
    obtain ⟨j, rfl, h0, h1, q2⟩ := onI_iff hd
    cases b.int
    refine ⟨j, rfl, ⟨by omega, by omega, by omega, by omega, by omega⟩, fun o ho => k _ q2 _ _ (x.trans (Ext.new ho)) ?_⟩
    have e : rgV 0 j = (List.range j.toNat).map fun (i : Nat) => V.int (0 + (i : Nat)) := by unfold rgV; rw [Int.sub_zero]
    rw [e]
    refine Rep.newL (r.ext x).domW ho (rep_rg _ _) ?_
    unfold rgD
    rw [List.length_map, List.length_range, sizeLine_eq]
    omega⟩
end
end DL

namespace DL
open PySem PySem.Spec L2
open PyProof.Rows hiding St

/-! ### dicts whose keys are tuples, nested -/
mutual
def toN : D → NestedKey
  | .int i => .num i
  | .str x => .text x
  | .tuple xs => .tup (toNs xs)
  | _ => .none
def toNs : List D → List NestedKey
  | [] => []
  | x :: xs => toN x :: toNs xs
end
mutual
def isK : D → Bool
  | .int _ => true
  | .str _ => true
  | .tuple xs => isKs xs
  | _ => false
def isKs : List D → Bool
  | [] => true
  | x :: xs => isK x && isKs xs
end
mutual
theorem toN_inj : ∀ (a b : D), isK a = true → isK b = true → toN a = toN b → a = b
  | .int i, b, _, h2, e => by cases b <;> simp [toN, isK] at e h2 <;> simp [e]
  | .str i, b, _, h2, e => by cases b <;> simp [toN, isK] at e h2 <;> simp [e]
  | .tuple xs, b, h1, h2, e => by
    cases b with
    | tuple ys =>
      simp [toN, isK] at e h1 h2
      rw [toNs_inj xs ys h1 h2 e]
    | _ => simp [toN, isK] at e h2
  | .none, _, h1, _, _ => by simp [isK] at h1
  | .bool _, _, h1, _, _ => by simp [isK] at h1
  | .list _, _, h1, _, _ => by simp [isK] at h1
  | .dict _, _, h1, _, _ => by simp [isK] at h1
theorem toNs_inj : ∀ (a b : List D), isKs a = true → isKs b = true → toNs a = toNs b → a = b
  | [], [], _, _, _ => rfl
  | [], _ :: _, _, _, e => by simp [toNs] at e
  | _ :: _, [], _, _, e => by simp [toNs] at e
  | x :: xs, y :: ys, h1, h2, e => by
    simp [toNs, isKs] at e h1 h2
    rw [toN_inj x y h1.1 h2.1 e.1, toNs_inj xs ys h1.2 h2.2 e.2]
end
mutual
theorem toN_depth : ∀ a : D, (toN a).depth ≤ a.depth
  | .int i => by simp [toN, NestedKey.depth]
  | .str i => by simp [toN, NestedKey.depth]
  | .tuple xs => by
    have := toNs_depth xs
    simp only [toN, NestedKey.depth, PyData.depth]
    omega
  | .none => by simp [toN, NestedKey.depth]
  | .bool _ => by simp [toN, NestedKey.depth]
  | .list _ => by simp [toN, NestedKey.depth]
  | .dict _ => by simp [toN, NestedKey.depth]
theorem toNs_depth : ∀ a : List D, NestedKey.depthAll (toNs a) ≤ PyData.depthAll a
  | [] => by simp [toNs, NestedKey.depthAll]
  | x :: xs => by
    have h1 := toN_depth x
    have h2 := toNs_depth xs
    simp only [toNs, NestedKey.depthAll, PyData.depthAll]
    omega
end
mutual
theorem kHash_eq (w : World) : ∀ a : D, isK a = true → kHash w a = (toN a).hash w
  | .int i, _ => by simp [kHash, toN, NestedKey.hash]
  | .str i, _ => by simp [kHash, toN, NestedKey.hash]
  | .tuple xs, h => by
    simp [isK] at h
    simp only [kHash, toN, NestedKey.hash, kHashes_eq w xs h]
  | .none, h => by simp [isK] at h
  | .bool _, h => by simp [isK] at h
  | .list _, h => by simp [isK] at h
  | .dict _, h => by simp [isK] at h
theorem kHashes_eq (w : World) : ∀ a : List D, isKs a = true → kHash.kHashes w a = NestedKey.hashes w (toNs a)
  | [], _ => by simp [kHash.kHashes, toNs, NestedKey.hashes]
  | x :: xs, h => by
    simp [isKs] at h
    simp only [kHash.kHashes, toNs, NestedKey.hashes, kHash_eq w x h.1, kHashes_eq w xs h.2]
end
theorem isKs_get : ∀ {ds : List D}, (∀ (i : Nat) d, ds[i]? = some d → isK d = true) → isKs ds = true
  | [], _ => rfl
  | x :: xs, h => by
    rw [isKs, h 0 x rfl, isKs_get fun i d e => h (i + 1) d (by simpa using e)]
    rfl
section
variable {K : PySem.W.Frag} {O : Addr → Prop} {H : Hp} {w : World}
theorem KRep.isK {v : V} {d : D} (h : KRep K O H v d) : isK d = true := by
  induction h with
  | int i => rfl
  | str x => rfl
  | @tup a xs ds h l all ih =>
    rw [DL.isK]
    refine isKs_get fun i d e => ?_
    have hi : i < xs.length := by rw [l]; exact (List.getElem?_eq_some_iff.mp e).1
    exact ih i xs[i] d (List.getElem?_eq_getElem hi) e
mutual
theorem Rep.krep : ∀ (d : D) {v : V}, Rep w K O H v d → DL.isK d = true → KRep K O H v d
  | _, _, .int i, _ => .int i
  | _, _, .str i, _ => .str i
  | .tuple ds, _, .tup h r z, k => by
    rw [DL.isK] at k
    exact .tup h (RepA.length r) (RepA.krep ds r k)
  | _, _, .non, k => by simp [DL.isK] at k
  | _, _, .bl _, k => by simp [DL.isK] at k
  | _, _, .lst _ _ _, k => by simp [DL.isK] at k
  | _, _, .dct _ _, k => by simp [DL.isK] at k
  | _, _, .dcs _ _ _, k => by simp [DL.isK] at k
theorem RepA.krep : ∀ (ds : List D) {vs : List V}, RepA w K O H vs ds → isKs ds = true → ∀ (i : Nat) v d, vs[i]? = some v → ds[i]? = some d → KRep K O H v d
  | [], _, .nil, _ => fun i v d e => by simp at e
  | x :: xs, _, .cons r s, k => fun i v d e1 e2 => by
    rw [isKs, Bool.and_eq_true] at k
    cases i with
    | zero => simp at e1 e2; subst e1; subst e2; exact Rep.krep x r k.1
    | succ i => exact RepA.krep xs s k.2 i v d (by simpa using e1) (by simpa using e2)
end
end
section
variable {X : Cx} {O : Addr → Prop} {pins : List (Addr × Obj)} {s : Shared} {σ : St} {H : Hp}
theorem nestedAll_of {h : Heap} : ∀ {ds : List D} {us : List Value}, us.length = ds.length → (∀ (i : Nat) u d, us[i]? = some u → ds[i]? = some d → NestedIs h (toN d) u) → NestedAll h (toNs ds) us
  | [], [], _, _ => by rw [toNs]; exact .nil
  | d :: ds, u :: us, l, h => by
    rw [toNs]
    exact .cons (h 0 u d rfl rfl) (nestedAll_of (by simpa using l) fun i u' d' e1 e2 => h (i + 1) u' d' (by simpa using e1) (by simpa using e2))
  | [], _ :: _, l, _ => by simp at l
  | _ :: _, [], l, _ => by simp at l
theorem KRep.nested (I : Inv X pins σ H s) {v : V} {d : D} (h : KRep X.K O H v d) : ∀ {u : Value}, RelV v u → NestedIs s.heap (toN d) u := by
  induction h with
  | int i =>
    rintro u ⟨t, rfl⟩
    rw [toN]
    exact .int i t
  | str x =>
    rintro u ⟨t, rfl⟩
    rw [toN]
    exact .text x t
  | @tup a xs ds h l all ih =>
    intro u ru
    cases ru
    obtain ⟨its, rv, ⟨o, ho, hc, n, hd⟩, hz⟩ := I.tuple h.sq
    rw [toN]
    refine .tup ho hc hd ?_
    refine nestedAll_of (by rw [← l, rv.length]) fun i u d e1 e2 => ?_
    have hi : i < xs.length := by rw [l]; exact (List.getElem?_eq_some_iff.mp e2).1
    obtain ⟨u', e3, r⟩ := rv.get (List.getElem?_eq_getElem hi)
    have : its[i]? = some u := by simpa using e1
    rw [this] at e3
    cases e3
    exact ih i _ d (List.getElem?_eq_getElem hi) e2 r
end
/-! ### the entries -/
def z3 : List D → List Addr → List Value → List (NestedKey × Addr × Value)
  | k :: ks, a :: as, u :: us => (toN k, a, u) :: z3 ks as us
  | _, _, _ => []
theorem z3_entries (P : Program) (w : World) : ∀ {ks : List D} {as : List Addr} {us : List Value}, (∀ k ∈ ks, isK k = true) → dEntries w ks as us = (z3 ks as us).map (entryOfKey (nestedKind P w))
  | [], _, _, _ => by simp [dEntries, z3]
  | _ :: _, [], _, _ => by simp [dEntries, z3]
  | _ :: _, _ :: _, [], _ => by simp [dEntries, z3]
  | k :: ks, a :: as, u :: us, h => by
    simp only [dEntries, z3, List.map_cons]
    rw [z3_entries P w fun x hx => h x (List.mem_cons_of_mem _ hx)]
    congr 1
    unfold entryOfKey
    simp only [kHash_eq w k (h k List.mem_cons_self)]
    rfl
theorem z3_keys : ∀ {ks : List D} {as : List Addr} {us : List Value}, as.length = ks.length → us.length = ks.length → (z3 ks as us).map (·.1) = ks.map toN
  | [], [], [], _, _ => rfl
  | k :: ks, a :: as, u :: us, h1, h2 => by
    simp only [z3, List.map_cons]
    rw [z3_keys (by simpa using h1) (by simpa using h2)]
  | [], _ :: _, _, h, _ => by simp at h
  | [], [], _ :: _, _, h => by simp at h
  | _ :: _, [], _, h, _ => by simp at h
  | _ :: _, _ :: _, [], _, h => by simp at h
theorem z3_get : ∀ {ks : List D} {as : List Addr} {us : List Value} {x : NestedKey × Addr × Value}, x ∈ z3 ks as us → ∃ (i : Nat) (k : D), ks[i]? = some k ∧ as[i]? = some x.2.1 ∧ us[i]? = some x.2.2 ∧ x.1 = toN k
  | k :: ks, a :: as, u :: us, x, h => by
    rw [z3] at h
    rcases List.mem_cons.mp h with rfl | h
    · exact ⟨0, k, rfl, rfl, rfl, rfl⟩
    · obtain ⟨i, k', h1, h2, h3, h4⟩ := z3_get h
      exact ⟨i + 1, k', by simpa using h1, by simpa using h2, by simpa using h3, h4⟩
  | [], _, _, x, h => by simp [z3] at h
  | _ :: _, [], _, x, h => by simp [z3] at h
  | _ :: _, _ :: _, [], x, h => by simp [z3] at h
theorem z3_length : ∀ {ks : List D} {as : List Addr} {us : List Value}, as.length = ks.length → us.length = ks.length → (z3 ks as us).length = ks.length := fun {ks as us} h1 h2 => by
  have := congrArg List.length (z3_keys h1 h2)
  simpa using this
theorem nodup_toN : ∀ {ks : List D}, (∀ k ∈ ks, isK k = true) → ks.Nodup → (ks.map toN).Nodup
  | [], _, _ => List.nodup_nil
  | k :: ks, h, nd => by
    rw [List.map_cons, List.nodup_cons]
    obtain ⟨n1, n2⟩ := List.nodup_cons.mp nd
    refine ⟨fun hm => ?_, nodup_toN (fun x hx => h x (List.mem_cons_of_mem _ hx)) n2⟩
    obtain ⟨x, hx, e⟩ := List.mem_map.mp hm
    rw [toN_inj x k (h x (List.mem_cons_of_mem _ hx)) (h k List.mem_cons_self) e] at hx
    exact n1 hx
/-- what stands under a key, in the values, too -/
theorem at_key {w : World} {K : PySem.W.Frag} {W : Addr → Prop} {H : Hp} {k : D} (hk : isK k = true) : ∀ {ks : List D} {as : List Addr} {us : List Value} {vs : List V} {ds : List D}, (∀ k ∈ ks, isK k = true) → as.length = ks.length → vs.length = ks.length → Vals vs us → RepA w K W H vs ds →
    match dlook (ks.zip ds) k with
    | some d => ∃ a u v, atKey (z3 ks as us) (toN k) = some (a, u) ∧ RelV v u ∧ Rep w K W H v d
    | none => atKey (z3 ks as us) (toN k) = none
  | [], [], [], [], [], _, _, _, _, _ => by simp [dlook, atKey, z3]
  | k0 :: ks, a :: as, u :: us, v :: vs, d :: ds, h, l1, l2, .cons rv rvs, .cons rp rps => by
    have ih := at_key hk (fun x hx => h x (List.mem_cons_of_mem _ hx)) (by simpa using l1) (by simpa using l2) rvs rps
    unfold dlook atKey at ih ⊢
    rw [z3, List.zip_cons_cons, List.find?_cons, List.find?_cons]
    by_cases e : k0 = k
    · subst e
      simp only [decide_true, Option.map_some]
      exact ⟨a, u, v, rfl, rv, rp⟩
    · have e2 : ¬ toN k0 = toN k := fun q => e (toN_inj _ _ (h k0 List.mem_cons_self) hk q)
      simp only [e, e2, decide_false]
      exact ih
  | [], _ :: _, _, _, _, _, l, _, _, _ => by simp at l
  | [], [], _, _ :: _, _, _, _, l, _, _ => by simp at l
  | _ :: _, [], _, _, _, _, l, _, _, _ => by simp at l
  | _ :: _, _ :: _, _, [], _, _, _, l, _, _ => by simp at l
section
variable {X : Cx} {W : Addr → Prop} {pins : List (Addr × Obj)} {s : Shared} {σ : St} {H : Hp} {a : Addr} {ks : List D} {vs : List V} {ds : List D}
theorem KAll.isK {K : PySem.W.Frag} {as : List Addr} (h : KAll K W H as ks) : ∀ k ∈ ks, DL.isK k = true := fun k hk => by
  obtain ⟨i, hi, e⟩ := List.getElem_of_mem hk
  have hl : i < as.length := by rw [h.len]; exact hi
  exact (h.all i as[i] k (List.getElem?_eq_getElem hl) (by rw [List.getElem?_eq_getElem hi, e])).isK
/-- the object of a dict -/
theorem DctIn.obj (I : Inv X pins σ H s) (h : DctIn X.w X.K W H a ks vs) : (a == sysModules) = false ∧ ∃ as us, KAll X.K W H as ks ∧ Vals vs us ∧ us.length = ks.length ∧ s.heap.DictOfH (nestedKind X.prog X.w) a (z3 ks as us) := by
  obtain ⟨h1, h2, h3, as, h4, h5⟩ := h
  obtain ⟨⟨us, o, es, ep, rv, ho, hx, hd, he⟩, _⟩ := (show ObjOk X.prog X.w H s.heap a (.ext (dφ X.w a ks as vs)) from I.hok a _ h5)
  have lu : us.length = ks.length := by rw [h3, rv.length]
  refine ⟨h1, as, us, h4, rv, lu, o, es, ep, ho, hx, hd, by rw [he]; exact z3_entries X.prog X.w h4.isK, fun x hx => ?_, ?_⟩
  · obtain ⟨i, k, e1, e2, e3, e4⟩ := z3_get hx
    rw [e4]
    exact ⟨(h4.all i _ k e2 e1).nested I rfl, Nat.le_trans (toN_depth k) (h4.dp k (List.mem_of_getElem? e1))⟩
  · rw [z3_keys h4.len lu]
    exact nodup_toN h4.isK h4.nd
end
/-! ### d[k] -/
@[simp] def gDget : G2
  | .dict kvs, .tuple ts, Q => isKs ts = true ∧ PyData.depthAll ts ≤ 7 ∧ ∃ d, dlook kvs (.tuple ts) = some d ∧ Q d
  | _, _, _ => False
theorem gDget_iff {d e : D} {Q : D → Prop} (h : gDget d e Q) : ∃ kvs ts, d = .dict kvs ∧ e = .tuple ts ∧ isKs ts = true ∧ PyData.depthAll ts ≤ 7 ∧ ∃ x, dlook kvs (.tuple ts) = some x ∧ Q x := by
  unfold gDget at h
  split at h
  · exact ⟨_, _, rfl, rfl, h⟩
  · exact h.elim
section
variable {X : Cx} {a b e : Expr} {pos p : Pos} {ta tb t : Wx} {pa : PAd} {W : Addr → Prop}
theorem BRep.dictK {w : World} {K : PySem.W.Frag} {H : Hp} {v : V} {kvs : List (D × D)} (r : BRep w K pa W H v (.dict kvs)) :
    (∃ a ks vs ds, v = .ref a ∧ kvs = ks.zip ds ∧ DctIn w K W H a ks vs ∧ RepA w K W H vs ds) ∨ (∃ (a : Addr) (kv : List (Key × V)) (ds : List D), v = .ref a ∧ H a = some (.dK kv) ∧ RepA w K W H (kv.map (·.2)) ds ∧ kvs = (kv.map fun p => keyD p.1).zip ds) := by
  rcases r with r | ⟨a, xs, ds', h1, h2, h3, h4, h5, h6⟩ | ⟨a, ks, vs, ds, h1, h2, h3, h4, h5⟩
  · cases r with
    | dct h1 h2 => exact .inl ⟨_, _, _, _, rfl, rfl, h1.2, h2⟩
    | dcs h1 h2 h3 => exact .inr ⟨_, _, _, rfl, h2, h3, rfl⟩
  · cases h2
  · cases h2
    exact .inl ⟨a, ks, vs, ds, h1, rfl, h4, h5⟩
theorem dlook_no {kv : List (Key × V)} {ds ts : List D} : dlook ((kv.map fun p => keyD p.1).zip ds) (.tuple ts) = none := by
  unfold dlook
  rw [List.find?_eq_none.mpr fun x hx => ?_]
  · rfl
  · have := List.of_mem_zip (a := x.1) (b := x.2) hx
    obtain ⟨y, _, e⟩ := List.mem_map.mp this.1
    rw [← e]
    cases y.1 <;> simp [keyD]
theorem q_dget (hu : X.A.units + 64 < cLine) (ho : QB X a ta) (hi : QB X b tb) (hs : NoSl b := by exact fun _ _ => rfl) : QE X (.Subscript a b pos) (w2 gDget ta tb) := by
  refine ⟨fun pins s σ H Q I ⟨O, pa, ρ, Q', r, q, k⟩ => ?_⟩
  refine subD_of PySem.F.slot_dict_getitem.lookup hs (thn (runB ho I r q) fun u s1 ⟨x, H1, I1, rx, d, q1, e1, b1⟩ => thn (runB hi I1 (r.ext e1) q1) fun iv s2 ⟨y, H2, I2, ry, d2, q2, e2, b2⟩ => ?_)
  have b1' := b1.ext ow_pa e2
  obtain ⟨kvs, ts, rfl, rfl, c1, c2, d3, e3, q3⟩ := gDget_iff q2
  rcases b1'.dictK with ⟨a, ks, vs, ds, rfl, rfl, hd, hr⟩ | ⟨a, kv, ds, rfl, hd, hr, rfl⟩
  · obtain ⟨g1, as, us, g2, g3, g4, g5⟩ := hd.obj I2
    have hk : isK (.tuple ts) = true := by rw [isK]; exact c1
    obtain ⟨at_, xs, rfl, h1, h2, h3⟩ := b2.tuple
    cases rx
    cases ry
    have kr := (b2.tupleRep).krep _ hk
    have nk := kr.nested I2 (rfl : RelV (.ref at_) (.ref at_))
    refine ⟨g5.typeIs, ?_⟩
    have ak := at_key hk g2.isK g2.len (by rw [g3.length, g4]) g3 hr
    rw [e3] at ak
    obtain ⟨aa, uu, vv, f1, f2, f3⟩ := ak
    refine wpAny_getItem_heap (knd := nestedKind X.prog X.w) (k := toN (.tuple ts)) (show X.A.units + 1 + 8 < cLine by omega) (show (nestedKind X.prog X.w).is _ _ _ from ⟨nk, Nat.le_trans (toN_depth _) (by simp only [PyData.depth]; omega)⟩) g5 f1 ?_
    exact ⟨vv, H2, I2.tok _, f2, k d3 q3 vv H2 (e1.trans e2) f3⟩
  · rw [dlook_no] at e3
    cases e3
end
end DL

namespace DL
open PySem PySem.Spec L2
open PyProof.Rows hiding St

section
variable {w : World} {K : PySem.W.Frag} {O : Addr → Prop} {pa : PAd} {ρ : Rho} {σ : St} {H H' Fz : Hp}
/-- a slot gets an object of the frame's own -/
theorem SR.setOwnG {i : Nat} {p : Addr} {sl : Sl} (so : sl.own = true) (r : SR w K O pa Fz ρ σ H) (e : Ext pa H H') (np : H p = none) (rp : SlOk w K pa (fun b => Ow O pa ρ σ b ∨ b = p) H' (.ref p) sl) :
    SR w K O pa Fz (ρ.set i (some sl)) (σ.set i (some (.ref p))) H' := by
  have npo : ¬ Ow O pa ρ σ p := fun z => r.toER.domW p z np
  have npp : ¬ isP pa p := fun z => npo (ow_pa p z)
  have own : ∀ {j : Nat} {s : Sl} {b : Addr}, (ρ.set i (some sl))[j]? = some (some s) → s.own = true → (σ.set i (some (.ref p)))[j]? = some (some (.ref b)) → (j = i ∧ b = p) ∨ (j ≠ i ∧ ρ[j]? = some (some s) ∧ σ[j]? = some (some (.ref b))) := fun {j s b} h1 h2 h3 => by
    by_cases c : i = j
    · subst c
      have hi : i < ρ.length := by
        have := (List.getElem?_eq_some_iff.mp h1).1
        simpa using this
      rw [List.getElem?_set_self (by rw [← r.len]; exact hi)] at h3
      cases h3
      exact .inl ⟨rfl, rfl⟩
    · rw [List.getElem?_set_ne c] at h1 h3
      exact .inr ⟨fun q => c q.symm, h1, h3⟩
  have sub : ∀ b, Ow O pa (ρ.set i (some sl)) (σ.set i (some (.ref p))) b → (Ow O pa ρ σ b ∨ b = p) := by
    rintro b (z | z | ⟨j, s, h1, h2, h3⟩)
    · exact .inl (.inl z)
    · exact .inl (.inr (.inl z))
    · rcases own h1 h2 h3 with ⟨_, q⟩ | ⟨_, q1, q2⟩
      · exact .inr q
      · exact .inl (.inr (.inr ⟨j, s, q1, h2, q2⟩))
  have sub' : ∀ b, Ow O pa (ρ.set i (some sl)) (σ.set i (some (.ref p))) b → (Ow O pa ρ σ b ∨ H b = none) := fun b z => (sub b z).elim .inl fun q => .inr (by rw [q]; exact np)
  have r' := r.ext e
  refine ⟨⟨by rw [List.length_set, List.length_set]; exact r.len, r'.dom, fun a c h => ?_, fun j s h => ?_⟩, r'.keep, fun b z => ?_, fun j k s t b h1 h2 h3 h4 h5 h6 => ?_, r.fpa, r.fO⟩
  · obtain ⟨_, ns, h2⟩ := r.pool a c h
    exact ⟨(r'.pool a c h).1, ns, h2.mono sub' (wkeep ow_pa e)⟩
  · by_cases c : i = j
    · subst c
      by_cases hi : i < ρ.length
      · rw [List.getElem?_set_self hi] at h
        cases h
        exact ⟨_, by rw [List.getElem?_set_self (by rw [← r.len]; exact hi)], rp.mono (fun b z => .inl (sub b z)) (fun _ _ _ z => z) fun _ _ _ _ z _ => z⟩
      · rw [List.getElem?_eq_none (by simpa using hi)] at h
        cases h
    · rw [List.getElem?_set_ne c] at h
      obtain ⟨u, h1, h2⟩ := r.slot j s h
      exact ⟨u, by rw [List.getElem?_set_ne c]; exact h1, h2.mono sub' (wkeep ow_pa e) fun _ b o _ q n => e.1 b o n q⟩
  · obtain ⟨j, s, h1, h2, h3⟩ := z
    rcases own h1 h2 h3 with ⟨_, rfl⟩ | ⟨_, q1, q2⟩
    · cases q : Fz b with
      | none => rfl
      | some o => rw [r.keep b o q] at np; cases np
    · exact r.fresh b ⟨j, s, q1, h2, q2⟩
  · have no : ∀ {j : Nat} {s : Sl}, ρ[j]? = some (some s) → s.own = true → σ[j]? = some (some (.ref p)) → False := fun a b c => npo (.inr (.inr ⟨_, _, a, b, c⟩))
    rcases own h1 h2 h3 with ⟨e1, rfl⟩ | ⟨e1, q1, q2⟩
    · rcases own h4 h5 h6 with ⟨e2, _⟩ | ⟨e2, q3, q4⟩
      · rw [e1, e2]
      · exact (no q3 h5 q4).elim
    · rcases own h4 h5 h6 with ⟨e2, rfl⟩ | ⟨e2, q3, q4⟩
      · exact (no q1 h2 q2).elim
      · exact r.sep j k s t b q1 h2 q2 q3 h5 q4
/-- an own object is changed in its place -/
theorem SR.writeG {i : Nat} {a : Addr} {o : HO} {sl sl' : Sl} (so : sl.own = true) (so' : sl'.own = true) (r : SR w K O pa Fz ρ σ H) (hi : ρ[i]? = some (some sl)) (ha : σ[i]? = some (some (.ref a))) (npp : ¬ isP pa a) (rp : SlOk w K pa (Ow O pa ρ σ) (upd H a o) (.ref a) sl') :
    SR w K O pa Fz (ρ.set i (some sl')) σ (upd H a o) := by
  have il : i < ρ.length := (List.getElem?_eq_some_iff.mp hi).1
  have own : ∀ {j : Nat} {s : Sl}, (ρ.set i (some sl'))[j]? = some (some s) → s.own = true → ∃ t, ρ[j]? = some (some t) ∧ t.own = true := fun {j s} q1 q2 => by
    by_cases c : i = j
    · subst c; exact ⟨_, hi, so⟩
    · rw [List.getElem?_set_ne c] at q1; exact ⟨_, q1, q2⟩
  have ow : Ow O pa ρ σ a := .inr (.inr ⟨i, _, hi, so, ha⟩)
  have sub : ∀ b, Ow O pa (ρ.set i (some sl')) σ b → Ow O pa ρ σ b := by
    rintro b (z | z | ⟨j, s, q1, q2, q3⟩)
    · exact .inl z
    · exact .inr (.inl z)
    · obtain ⟨t, q4, q5⟩ := own q1 q2
      exact .inr (.inr ⟨j, t, q4, q5, q3⟩)
  have kp : ∀ b u, ¬ Ow O pa ρ σ b → H b = some u → upd H a o b = some u := fun b u n z => by
    rw [upd_ne (fun q => n (by rw [q]; exact ow))]; exact z
  have fa : Fz a = none := r.fresh a ⟨i, _, hi, so, ha⟩
  refine ⟨⟨by rw [List.length_set]; exact r.len, fun b z => ?_, fun a' c h => ?_, fun j s h => ?_⟩, fun b o z => ?_, fun b z => ?_, fun j k s t b q1 q2 q3 q4 q5 q6 => ?_, r.fpa, r.fO⟩
  · by_cases q : b = a
    · rw [q, upd_same]; simp
    · rw [upd_ne q]; exact r.dom b z
  · obtain ⟨⟨i', j', k', s', p1, p2⟩, ns, p3⟩ := r.pool a' c h
    refine ⟨⟨i', j', k', s', ?_, p2⟩, ns, p3.mono (fun b z => .inl (sub b z)) kp⟩
    rw [upd_ne (fun q => npp ⟨c, by rw [← q]; exact h⟩)]
    exact p1
  · by_cases c : i = j
    · subst c
      rw [List.getElem?_set_self il] at h
      cases h
      exact ⟨_, ha, rp.mono (fun b z => .inl (sub b z)) (fun _ _ _ z => z) fun _ _ _ _ z _ => z⟩
    · rw [List.getElem?_set_ne c] at h
      obtain ⟨u, p1, p2⟩ := r.slot j s h
      refine ⟨u, p1, p2.mono (fun b z => .inl (sub b z)) kp fun so2 b o eb q _ => ?_⟩
      rw [upd_ne (fun q' => ?_)]
      · exact q
      · subst eb
        rw [q'] at p1
        exact c (r.sep i j _ _ a hi so ha h so2 p1)
  · rw [upd_ne (fun q => by rw [q, fa] at z; cases z)]
    exact r.keep b o z
  · obtain ⟨j, s, q1, q2, q3⟩ := z
    obtain ⟨t, q4, q5⟩ := own q1 q2
    exact r.fresh b ⟨j, t, q4, q5, q3⟩
  · obtain ⟨t1, a1, a2⟩ := own q1 q2
    obtain ⟨t2, b1, b2⟩ := own q4 q5
    exact r.sep j k t1 t2 b a1 a2 q3 b1 b2 q6
end
/-! ### {} -/
section
variable {X : Cx} {pos : Pos}
theorem dφ_stable {w : World} {a : Addr} {ks : List D} {as : List Addr} {vs : List V} : ∀ h1 h2 : Heap, dφ w a ks as vs h1 → (∀ o, h1.get? a = some o → h2.get? a = some o) → dφ w a ks as vs h2 :=
  fun h1 h2 ⟨us, o, es, ep, a1, a2, a3⟩ k => ⟨us, o, es, ep, a1, k _ a2, a3⟩
def tDNew (w : World) : TE := fun _ H Q => ∀ p, H p = none → (p == sysModules) = false → Q (.ref p) (upd H p (.ext (dφ w p [] [] [])))
theorem pe_dnew : PE X (.Dict [] [] pos) (tDNew X.w) := ⟨fun pins s σ H Q I h =>
  wpAny_Dict_empty ⟨.ref s.heap.objs.size, _, I.laid (a := s.heap.objs.size) (o := .ext (dφ X.w s.heap.objs.size [] [] [])) (t' := s.toks) (fun _ _ q => Heap.get?_push_of_some _ q) (Nat.le_refl _)
    ⟨⟨[], _, #[], 0, .nil, Heap.get?_push_size _ rfl, ⟨rfl, rfl, rfl⟩, rfl, rfl⟩, ⟨_, Heap.get?_push_size _ rfl⟩, dφ_stable⟩, rfl, h _ (I.hok.fresh (Nat.le_refl _)) (beq_eq_false_iff_ne.mpr (Ne.symm (Nat.ne_of_lt I.big)))⟩⟩
abbrev Wd := Rho → (List (D × D) → Prop) → Prop
/-- a new dict, for a slot of the frame's own -/
def tFD (w : World) (K : PySem.W.Frag) (t : Wd) : TE := fun σ H Q => ∃ O pa ρ Q', ER w K O pa ρ σ H ∧ t ρ Q' ∧
  ∀ kvs, Q' kvs → ∀ p ks vs ds H', Ext pa H H' → H p = none → DctIn w K (fun b => Ow O pa ρ σ b ∨ b = p) H' p ks vs → RepA w K (fun b => Ow O pa ρ σ b ∨ b = p) H' vs ds → kvs = ks.zip ds → Q (.ref p) H'
abbrev QFD (X : Cx) (e : Expr) (t : Wd) : Prop := PE X e (tFD X.w X.K t)
@[simp] def wdNew : Wd := fun _ Q => Q []
theorem qfd_new : QFD X (.Dict [] [] pos) wdNew :=
  PE.imp pe_dnew fun σ H Q ⟨O, pa, ρ, Q', r, q, k⟩ => fun p hp hs => k [] q p [] [] [] _ (Ext.new hp) hp ⟨hs, Nat.zero_le _, rfl, [], ⟨rfl, List.nodup_nil, (fun _ h => by cases h), (fun i a k h => by simp at h)⟩, upd_same⟩ .nil rfl
@[simp] def wOwnD (i : Nat) (t : Wd) : Ws := fun E ρ => t ρ fun kvs => E.nx (ρ.set i (some (.od kvs)))
theorem qs_ownD {i : Nat} {x : Str} {e : Expr} {t : Wd} {pos' : Pos} (hN : X.N.Nodup) (hi : X.N[i]? = some x) (hx : Loc X.env.scope x) (he : QFD X e t) (hs : swapsWith e (some (.Name x pos')) pos.line X.env = pure false := by rfl) (hf : X.fn x = true ∨ X.env.scope.names.lookup x = some .local := by first | exact .inl rfl | exact .inr rfl | assumption) :
    QS X (.Assign [.Name x pos'] e pos) (wOwnD i t) :=
  PS.imp (ps_set hN hi hx he hs hf) fun Dd σ H ⟨O, pa, Fz, ρ, E, r, q, k1, _⟩ => ⟨O, pa, ρ, _, r.toER, q, fun kvs hd p ks vs ds H' x np hc rp ez =>
    k1 _ hd _ _ (r.setOwnG rfl x np ⟨p, ks, vs, ds, rfl, hc, rp, ez, fun z => r.toER.domW p (ow_pa p z) np⟩)⟩
end
/-! ### d[k] = v -/
def putD {α : Type} (ks : List D) (xs : List α) (k : D) (x : α) : List α := List.zipWith (fun k0 x0 => if k0 = k then x else x0) ks xs
theorem putD_len {α : Type} {ks : List D} {xs : List α} {k : D} {x : α} (h : ks.length = xs.length) : (putD ks xs k x).length = xs.length := by
  unfold putD
  rw [List.length_zipWith, h, Nat.min_self]
def dset (kvs : List (D × D)) (k d : D) : List (D × D) := if k ∈ kvs.map (·.1) then kvs.map (fun p => if p.1 = k then (p.1, d) else p) else kvs ++ [(k, d)]
theorem zip_put : ∀ {ks : List D} {ds : List D} {k d : D}, ks.length = ds.length → (ks.zip ds).map (fun p => if p.1 = k then (p.1, d) else p) = ks.zip (putD ks ds k d)
  | [], [], _, _, _ => rfl
  | k0 :: ks, d0 :: ds, k, d, h => by
    simp only [putD, List.zipWith_cons_cons, List.zip_cons_cons, List.map_cons]
    rw [zip_put (by simpa using h)]
    congr 1
    split <;> rfl
  | [], _ :: _, _, _, h => by simp at h
  | _ :: _, [], _, _, h => by simp at h
theorem vals_put {k : D} {v : V} {u : Value} (r : RelV v u) : ∀ {ks : List D} {vs : List V} {us : List Value}, Vals vs us → Vals (putD ks vs k v) (putD ks us k u)
  | [], _, _, _ => by simp [putD]; exact .nil
  | _ :: _, _, _, .nil => by simp [putD]; exact .nil
  | k0 :: ks, _, _, .cons r1 r2 => by
    simp only [putD, List.zipWith_cons_cons]
    refine .cons ?_ (vals_put r r2)
    split
    · exact r
    · exact r1
theorem repA_put {w : World} {K : PySem.W.Frag} {W : Addr → Prop} {H : Hp} {k d : D} {v : V} (r : Rep w K W H v d) : ∀ {ks : List D} {vs : List V} {ds : List D}, RepA w K W H vs ds → RepA w K W H (putD ks vs k v) (putD ks ds k d)
  | [], _, _, _ => by simp [putD]; exact .nil
  | _ :: _, _, _, .nil => by simp [putD]; exact .nil
  | k0 :: ks, _, _, .cons r1 r2 => by
    simp only [putD, List.zipWith_cons_cons]
    refine .cons ?_ (repA_put r r2)
    split
    · exact r
    · exact r1
theorem z3_put {k : D} {u : Value} (hk : isK k = true) : ∀ {ks : List D} {as : List Addr} {us : List Value}, (∀ x ∈ ks, isK x = true) → as.length = ks.length → us.length = ks.length → (z3 ks as us).map (putAt (toN k) u) = z3 ks as (putD ks us k u)
  | [], [], [], _, _, _ => rfl
  | k0 :: ks, a :: as, u0 :: us, h, h1, h2 => by
    have ih := z3_put hk (u := u) (fun x hx => h x (List.mem_cons_of_mem _ hx)) (by simpa using h1) (by simpa using h2)
    simp only [z3, putD, List.zipWith_cons_cons, List.map_cons] at ih ⊢
    rw [ih]
    congr 1
    unfold putAt
    by_cases e : k0 = k
    · rw [if_pos e, if_pos (by rw [e])]
    · rw [if_neg e, if_neg (fun q => e (toN_inj _ _ (h k0 List.mem_cons_self) hk q))]
  | [], _ :: _, _, _, h, _ => by simp at h
  | [], [], _ :: _, _, _, h => by simp at h
  | _ :: _, [], _, _, h, _ => by simp at h
  | _ :: _, _ :: _, [], _, _, h => by simp at h
theorem z3_app {k : D} {a : Addr} {u : Value} : ∀ {ks : List D} {as : List Addr} {us : List Value}, as.length = ks.length → us.length = ks.length → z3 (ks ++ [k]) (as ++ [a]) (us ++ [u]) = z3 ks as us ++ [(toN k, a, u)]
  | [], [], [], _, _ => rfl
  | k0 :: ks, a0 :: as, u0 :: us, h1, h2 => by
    simp only [List.cons_append, z3]
    rw [z3_app (by simpa using h1) (by simpa using h2)]
  | [], _ :: _, _, h, _ => by simp at h
  | [], [], _ :: _, _, h => by simp at h
  | _ :: _, [], _, h, _ => by simp at h
  | _ :: _, _ :: _, [], _, h => by simp at h
theorem atKey_mem {k : D} (hk : isK k = true) {ks : List D} {as : List Addr} {us : List Value} (h : ∀ x ∈ ks, isK x = true) (h1 : as.length = ks.length) (h2 : us.length = ks.length) : (atKey (z3 ks as us) (toN k)).isSome = decide (k ∈ ks) := by
  unfold atKey
  rw [Option.isSome_map, Bool.eq_iff_iff, List.find?_isSome]
  simp only [decide_eq_true_eq]
  constructor
  · rintro ⟨x, hx, e⟩
    obtain ⟨i, k', e1, _, _, e4⟩ := z3_get hx
    rw [e4] at e
    rw [← toN_inj k' k (h k' (List.mem_of_getElem? e1)) hk e]
    exact List.mem_of_getElem? e1
  · intro hm
    have := z3_keys h1 h2
    have hm2 : toN k ∈ (z3 ks as us).map (·.1) := by rw [this]; exact List.mem_map_of_mem hm
    obtain ⟨x, hx, e⟩ := List.mem_map.mp hm2
    exact ⟨x, hx, e⟩
def extO (w : World) (a at_ : Addr) (ks : List D) (as : List Addr) (vs : List V) (k : D) (v : V) : HO := if k ∈ ks then .ext (dφ w a ks as (putD ks vs k v)) else .ext (dφ w a (ks ++ [k]) (as ++ [at_]) (vs ++ [v]))
def rSetT (w : World) (K : PySem.W.Frag) : TSet := fun o i v H Q => ∃ (W : Addr → Prop) (a at_ : Addr) (ks : List D) (as : List Addr) (vs : List V) (k : D), o = .ref a ∧ i = .ref at_ ∧ ks.length < 1000000 ∧ ks.length = vs.length ∧ KAll K W H as ks ∧
  H a = some (.ext (dφ w a ks as vs)) ∧ KRep K W H (.ref at_) k ∧ k.depth ≤ 8 ∧ Q (upd H a (extO w a at_ ks as vs k v))
section
variable {X : Cx}
theorem set_dct (hu : X.A.units + 64 < cLine) : PSet X (rSetT X.w X.K) := by
  intro pins s σ H o i v ov iv u Q I ro ri rv h
  obtain ⟨W, a, at_, ks, as, vs, k, rfl, rfl, hl, h3, h4, h5, kr, kd, q⟩ := h
  cases ro
  cases ri
  obtain ⟨⟨us, ob, es, ep, rvs, ho, hx, hd, he⟩, _⟩ := (show ObjOk X.prog X.w H s.heap a (.ext (dφ X.w a ks as vs)) from I.hok a _ h5)
  have lu : us.length = ks.length := by rw [h3, rvs.length]
  have hk := kr.isK
  have dd : s.heap.DictOfH (nestedKind X.prog X.w) a (z3 ks as us) := by
    refine ⟨ob, es, ep, ho, hx, hd, by rw [he]; exact z3_entries X.prog X.w h4.isK, fun x hx => ?_, ?_⟩
    · obtain ⟨i, k, e1, e2, e3, e4⟩ := z3_get hx
      rw [e4]
      exact ⟨(h4.all i _ k e2 e1).nested I rfl, Nat.le_trans (toN_depth k) (h4.dp k (List.mem_of_getElem? e1))⟩
    · rw [z3_keys h4.len lu]
      exact nodup_toN h4.isK h4.nd
  refine wpAny_setItem_heap (knd := nestedKind X.prog X.w) (k := toN k) (show X.A.units + 1 + 8 < cLine by omega) (show (nestedKind X.prog X.w).is _ _ _ from ⟨kr.nested I rfl, Nat.le_trans (toN_depth _) kd⟩) dd (fun h' hm' hs => ?_) (by rw [z3_length h4.len lu, sizeLine_eq]; omega)
  refine ⟨_, ?_, q⟩
  obtain ⟨o', es', ep', g1, g2, g3, g4, _, _⟩ := hm'
  have isk2 : ∀ x ∈ ks ++ [k], isK x = true := fun x hx => (List.mem_append.mp hx).elim (h4.isK x) fun e => by rw [List.mem_singleton.mp e]; exact hk
  refine I.write (x := a) (e := a) (by rw [h5]; trivial) (.inl rfl) (fun b u' hb e => (hs.2 b hb).trans e) ⟨_, g1⟩ ?_
  unfold extO
  have am := atKey_mem hk h4.isK h4.len lu
  by_cases hm : k ∈ ks
  · rw [if_pos hm]
    refine ⟨⟨putD ks us k u, o', es', ep', vals_put rv rvs, g1, g2, g3, ?_⟩, ⟨_, g1⟩, dφ_stable⟩
    rw [g4, z3_entries X.prog X.w h4.isK]
    congr 1
    unfold storedH
    rw [if_pos (by rw [am]; exact decide_eq_true hm), z3_put hk h4.isK h4.len lu]
  · rw [if_neg hm]
    refine ⟨⟨us ++ [u], o', es', ep', rvs.append (.cons rv .nil), g1, g2, g3, ?_⟩, ⟨_, g1⟩, dφ_stable⟩
    rw [g4, z3_entries X.prog X.w isk2]
    congr 1
    unfold storedH
    rw [if_neg (by rw [am]; simp [hm]), z3_app h4.len lu]
end
@[simp] def onOd (Q : List (D × D) → Prop) : Option (Option Sl) → Prop
  | some (some (.od kvs)) => Q kvs
  | _ => False
theorem onOd_iff {Q : List (D × D) → Prop} {s : Option (Option Sl)} (h : onOd Q s) : ∃ kvs, s = some (some (.od kvs)) ∧ Q kvs := by
  unfold onOd at h
  split at h
  · exact ⟨_, rfl, h⟩
  · exact h.elim
@[simp] def onTp (Q : List D → Prop) : D → Prop
  | .tuple ts => Q ts
  | _ => False
theorem onTp_iff {Q : List D → Prop} {d : D} (h : onTp Q d) : ∃ ts, d = .tuple ts ∧ Q ts := by
  unfold onTp at h
  split at h
  · exact ⟨_, rfl, h⟩
  · exact h.elim
theorem KAll.add {K : PySem.W.Frag} {W : Addr → Prop} {H : Hp} {as : List Addr} {ks : List D} {a : Addr} {k : D} (h : KAll K W H as ks) (n : k ∉ ks) (r : KRep K W H (.ref a) k) (d : k.depth ≤ 8) : KAll K W H (as ++ [a]) (ks ++ [k]) where
  len := by simp [h.len]
  nd := by
    rw [List.nodup_append]
    exact ⟨h.nd, by simp, fun x hx y hy => by rw [List.mem_singleton.mp hy]; exact fun e => n (e ▸ hx)⟩
  dp := fun x hx => (List.mem_append.mp hx).elim (h.dp x) fun e => by rw [List.mem_singleton.mp e]; exact d
  all := fun i b x e1 e2 => by
    by_cases hi : i < as.length
    · rw [List.getElem?_append_left hi] at e1
      rw [List.getElem?_append_left (by rw [← h.len]; exact hi)] at e2
      exact h.all i b x e1 e2
    · rw [List.getElem?_append_right (by omega)] at e1
      rw [List.getElem?_append_right (by rw [← h.len]; omega), ← h.len] at e2
      cases j : i - as.length with
      | zero => rw [j] at e1 e2; simp at e1 e2; subst e1; subst e2; exact r
      | succ j' => rw [j] at e1; simp at e1
theorem zip_keys {ks ds : List D} (h : ks.length = ds.length) : (ks.zip ds).map (·.1) = ks := List.map_fst_zip (by omega)
section
variable {X : Cx} {pos : Pos}
/-- d[k] = e, d of the frame's own -/
@[simp] def wDset (i : Nat) (tk te : Wx) : Ws := fun E ρ => te ρ fun d => onOd (fun kvs => tk ρ (onTp fun ts => isKs ts = true ∧ PyData.depthAll ts ≤ 7 ∧ kvs.length < 1000000 ∧ E.nx (ρ.set i (some (.od (dset kvs (.tuple ts) d)))))) ρ[i]?
theorem qs_dset {i : Nat} {x : Str} {ke e : Expr} {tk te : Wx} {px tpos : Pos} (hu : X.A.units + 64 < cLine) (he : QE X e te) (hk : QE X ke tk) (hN : X.N[i]? = some x := by rfl) (hv : Vis X.env.scope x := by first | exact Or.inl rfl | exact Or.inr (Or.inl rfl) | exact Or.inr (Or.inr rfl))
    (hd : (x == ("__debug__" : Str)) = false := by decide) (hcd : (x == ("__classdict__" : Str)) = false := by decide)
    (ha : ∀ v, assign (.Subscript (.Name x px) ke tpos) X.env v = (do
      let ov ← holding [v] (eval (.Name x px) X.env)
      let iv ← holding [v, ov] (eval ke X.env)
      standAt tpos
      holding [v, ov, iv] (setItem ov iv v)
      release [v, ov, iv] []) := by intro _; rfl)
    (hs : swapsWithSole [.Subscript (.Name x px) ke tpos] e pos.line X.env = pure false := by rfl) (hw : swappedStores [.Subscript (.Name x px) ke tpos] e X.env = pure none := by rfl)
    (h1 : (assignEach [.Subscript (.Name x px) ke tpos] X.env).map (·.2) = [assign (.Subscript (.Name x px) ke tpos) X.env] := by rfl) :
    QS X (.Assign [.Subscript (.Name x px) ke tpos] e pos) (wDset i tk te) := by
  refine PS.imp (ps_asg he (pg_sub (pe_var hN hv hd hcd) hk (set_dct hu) ha) hs hw h1) fun Dd σ H ⟨O, pa, Fz, ρ, E, r, q, k1, _⟩ => ⟨O, pa, ρ, _, r.toER, q, fun d hd v H1 x rp => ?_⟩
  obtain ⟨kvs, hx, q⟩ := onOd_iff hd
  have r1 := r.ext x
  obtain ⟨u, h1, a, ks, vs, ds, rfl, h2, h3, rfl, npp⟩ := r1.slot i _ hx
  refine ⟨_, h1, O, pa, ρ, _, r1.toER, q, fun dk hdk vk H2 x2 rpk => ?_⟩
  obtain ⟨ts, rfl, c1, c2, c3, q2⟩ := onTp_iff hdk
  have r2 := r1.ext x2
  have hk : isK (.tuple ts) = true := by rw [isK]; exact c1
  have dk8 : (PyData.tuple ts).depth ≤ 8 := by simp only [PyData.depth]; omega
  have kr := rpk.krep _ hk
  have h2' := h2.mono (fun _ z => .inl z) (wkeep ow_pa x2) (fun o q => x2.1 _ _ npp q)
  have h3' := h3.ext ow_pa x2
  obtain ⟨s1, s2, s3, as, ka, eq⟩ := h2'
  have lds : vs.length = ds.length := h3'.length
  have lz : (ks.zip ds).length = ks.length := by rw [List.length_zip, ← lds, ← s3, Nat.min_self]
  rw [lz] at c3
  cases rpk with
  | @tup at_ xs _ t1 t2 t3 =>
    refine ⟨_, a, at_, ks, as, vs, .tuple ts, rfl, rfl, c3, s3, ka, eq, kr, dk8, ?_⟩
    refine k1 _ q2 _ _ (r2.writeG rfl rfl hx h1 npp ?_)
    have ow : Ow O pa ρ σ a := .inr (.inr ⟨i, _, hx, rfl, h1⟩)
    have kp : ∀ b u, ¬ Ow O pa ρ σ b → H2 b = some u → upd H2 a (extO X.w a at_ ks as vs (.tuple ts) v) b = some u := fun b u n z => by
      rw [upd_ne (fun q => n (by rw [q]; exact ow))]; exact z
    have rpv := (rp.ext ow_pa x2).mono (fun _ z => .inl z) kp
    have h3'' := h3'.mono (fun _ z => .inl z) kp
    have sl := sizeLine_eq
    by_cases hm : PyData.tuple ts ∈ ks
    · refine ⟨a, ks, putD ks vs (.tuple ts) v, putD ks ds (.tuple ts) d, rfl, ⟨s1, s2, ?_, as, ka.mono (fun _ z => .inl z) kp, ?_⟩, repA_put rpv h3'', ?_, npp⟩
      · rw [putD_len s3]; exact s3
      · rw [upd_same]; unfold extO; rw [if_pos hm]
      · unfold dset
        rw [zip_keys (by omega), if_pos hm, zip_put (by omega)]
    · refine ⟨a, ks ++ [.tuple ts], vs ++ [v], ds ++ [d], rfl, ⟨s1, by rw [List.length_append, sl]; simp; omega, by simp [s3], as ++ [at_], (ka.add hm kr dk8).mono (fun _ z => .inl z) kp, ?_⟩, h3''.append (.cons rpv .nil), ?_, npp⟩
      · rw [upd_same]; unfold extO; rw [if_neg hm]
      · unfold dset
        rw [zip_keys (by omega), if_neg hm, List.zip_append (by omega)]
        rfl
end
end DL

namespace DL
open PySem PySem.Spec L2
open PyProof.Rows hiding St

/-! ### set(xs) of a list of ints; sorted(set(xs)) -/
section
variable {P : Program} {w : World} {A : Around} {E : Value → Shared → Prop} {s : Shared}
abbrev mtSet (w : World) : Obj := { cls := .type "set", dict := none, data := .set #[] 0 (.fresh 0 0 (!w.params.followText "set-order")) }
theorem set_of_list {l : Addr} {its : Array Value} (ns : List Int) {Q : Value → Shared → Prop} (hh : A.handled = none) (hl : s.heap.IsList l its) (hit : IntsAre its.toList ns) (hb : ns.length + 1 < scanBound)
    (h : ∀ (h' : Heap) (tk c : Nat), SetR w h' s.heap.objs.size (fun j => decide (j ∈ ns)) c → c ≤ ns.length → (∀ b o, s.heap.get? b = some o → h'.get? b = some o) → Q (.ref s.heap.objs.size) { s with heap := h', toks := tk }) :
    wpAny (model P w) A (call (.type "set") [.ref l]) Q E s := by
  have hisz : its.size = ns.length := (Array.length_toList (xs := its)).symm.trans hit.length
  obtain ⟨c, tl, hmro⟩ := F.called_set.mro
  have hmade := F.called_set.made; have hsub := F.called_set.sub
  refine wpAny_call (codeAny_of_tree ?_); show wpAny _ _ (callAny (.type "set") _) _ _ _
  refine wpAny_pure ⟨Code.quiet_builtin _ (by decide +kernel), codeAny_builtin F.entry_type_call ?_⟩; rw [Around.under_plain (weight_type_call_type "set" [.ref l] []) rfl]
  have h1 := F.called_set.notType; have h2 := F.called_set.canCreate; have hct := F.typeCall_set_1 (.ref l)
  repeat (any_goals (first | assumption | wp_step))
  refine codeAny_mono (code_set_led1 (.ref l) (E := E) (Q₁ := fun ob s₁ => ob = .ref s.heap.objs.size ∧ s₁ = { s with heap := s.heap.push (mtSet w) }) ⟨rfl, rfl⟩) fun r s₁ hr => ?_
  cases r with
  | error e => exact hr
  | ok fl =>
    cases fl with
    | ret obj =>
      obtain ⟨rfl, rfl⟩ := hr
      have hS : (s.heap.push (mtSet w)).get? s.heap.objs.size = some (mtSet w) := Heap.get?_push_size _ rfl
      have hT : Shared.TypeIs { s with heap := s.heap.push (mtSet w) } (.ref s.heap.objs.size) "set" := ⟨_, hS, rfl⟩
      have hli := F.called_set.init.lookup; have hbi := F.called_set.init.bind (.ref s.heap.objs.size)
      repeat (any_goals (first | assumption | wp_step))
      refine codeAny_mono (codeAny_call_builtin (R := wants (fun r s₂ => r = .none ∧ ∃ h' tk c, s₂ = { s with heap := h', toks := tk } ∧ SetR w h' s.heap.objs.size (fun j => decide (j ∈ ns)) c ∧ c ≤ ns.length ∧ (∀ b o, s.heap.get? b = some o → h'.get? b = some o)) E) F.called_set.init.plain F.entry_set_init (check_set_init_1 hT ?_)) fun r₂ s₂ hr₂ => ?_
      · obtain ⟨⟨ocls, odict, odata, oslots⟩, hol, hcl, nl, hdl⟩ := hl
        simp only at hcl hdl; subst hcl; subst hdl
        have hol' : (s.heap.push (mtSet w)).get? l = some { cls := .type "list", dict := odict, data := .seq its nl, slots := oslots } := Heap.get?_push_of_some _ hol
        have hsls := F.sub_list_set; have hslf := F.sub_list_frozenset
        have hne : (Value.type "list" == Value.type "dict") = false := by decide
        have hl1 : (s.heap.push (mtSet w)).IsList l its := ⟨_, hol', rfl, nl, rfl⟩
        unfold Builtin.«set.__init__» noKeywords Builtin.Frozenset.updateFrom; generalize hPI : pyIter = PI
        wp_walk; subst hPI
        refine wpAny_pyIter_list hl1 ?_; refine wpAny_bind (wpAny_runValue ?_)
        have hlS : l < s.heap.objs.size := Heap.lt_size hol
        have hh3 : A.in1.in1.in1.handled = none := by simp [hh]
        have zP : (s.heap.push (mtSet w)).objs.size = s.heap.objs.size + 1 := Heap.size_push ..
        have hneI : l ≠ (s.heap.push (mtSet w)).objs.size := by rw [zP]; exact Nat.ne_of_lt (Nat.lt_succ_of_lt hlS)
        have hSf : s.heap.objs.size ∉ [(s.heap.push (mtSet w)).objs.size, l] := by
          rw [zP]; intro q; rcases List.mem_cons.mp q with q | q
          · exact Nat.ne_of_lt (Nat.lt_succ_self _) q
          · exact Nat.ne_of_gt hlS (List.mem_singleton.mp q)
        have hval : ∀ (i : Nat) (v : Value), its[i]? = some v → ∃ k t, ns[i]? = some k ∧ v = .int k t := fun i v hv => by
          have hi : i < ns.length := by rw [← hisz]; exact (Array.getElem?_eq_some_iff.mp hv).1
          obtain ⟨t, e⟩ := PyProof.Rows.IntsAre.int_at hit i v (by rw [Array.getElem?_toList]; exact hv)
          exact ⟨ns[i], t, List.getElem?_eq_getElem hi, by rw [e, List.getD_eq_getElem?_getD, List.getElem?_eq_getElem hi]; rfl⟩
        refine set_update_ints ((Walks.list hh3 _ l hneI its).toS) s.heap.objs.size hSf ns hisz hb hval (its.size - 0) 0 _ (by omega) (Nat.zero_le _) ⟨⟨_, Heap.get?_push_size _ rfl, rfl, rfl⟩, (hl1.push _)⟩ ?s0 ?sr
        case s0 => exact ⟨0, Nat.le_refl 0, setR_new_at (Heap.get?_push_of_some _ hS)⟩
        case sr =>
          intro s' c' hm hc' hS'
          obtain ⟨h', g2, d', tk', os'⟩ := s'
          have eg : g2 = s.gens := hm.gens; have ed : d' = s.drawn := hm.drawn; have eo : os' = s.os := hm.os
          subst eg; subst ed; subst eo
          show wpAny _ _ _ _ _ _; refine wpAny_pure ?_; show wpAny _ _ (ret Value.none) _ _ _; rw [hisz] at hc'
          refine wpAny_pure ⟨rfl, h', tk', c', rfl, hS', hc', fun b o e => hm.heap b o (fun q => ?_) (Heap.get?_push_of_some _ (Heap.get?_push_of_some _ e))⟩
          have hb0 : b < s.heap.objs.size := Heap.lt_size e
          have q' : b = s.heap.objs.size ∨ b = (s.heap.push (mtSet w)).objs.size := by simpa using q
          rw [zP] at q'
          rcases q' with q' | q'
          · exact Nat.ne_of_lt hb0 q'
          · exact Nat.ne_of_lt (Nat.lt_succ_of_lt hb0) q'
      · cases r₂ with
        | error e => exact hr₂
        | ok f2 =>
          cases f2 with
          | ret r =>
            obtain ⟨rfl, h', tk, c', rfl, hS', hc', hk'⟩ := hr₂; repeat (any_goals (first | assumption | wp_step))
            exact h _ _ _ hS' hc' hk'
          | _ => exact hr₂.elim
    | _ => exact hr.elim
end
end DL

namespace DL
open PySem PySem.Spec L2
open PyProof.Rows hiding St

/-! ### sorted(set(xs)), sorted(t) -/
section
variable {X : Cx} {a : Expr} {p p2 q2 pos : Pos} {ta : Wx}
theorem collect_tup {P : Program} {w : World} {A : Around} {E : Value → Shared → Prop} {s : Shared} {l : Addr} {vs : List Value} {Q : List Value → Shared → Prop} (hl : IsTup s.heap l vs.toArray) (hsz : vs.length ≤ sizeLine)
    (h : Q vs { s with heap := (s.heap.push (seqObj "list" #[] 0)).update s.heap.objs.size (Obj.mapSeq (· ++ vs.toArray)) }) : wpAny (model P w) A (collect (.ref l)) Q E s := by
  obtain ⟨o, ho, hc, n, hd⟩ := id hl
  have nS : (s.heap.push (seqObj "list" #[] 0)).get? s.heap.objs.size = some (seqObj "list" #[] 0) := Heap.get?_push_size _ rfl
  unfold collect; refine wpAny_bind (wpAny_runValue (codeAny_builtin entry_proto_collect' ?_))
  show wpAny _ _ (do again (.builtin "list.__iadd__" ⟨[← newList [], .ref l], []⟩)) _ _ s; refine wpAny_bind (wpAny_newList (wpAny_pure ⟨Code.quiet_builtin _ (by decide +kernel), codeAny_builtin entry_list_iadd' ?_⟩))
  show wpAny _ _ (Builtin.List.listExtendWith (.ref s.heap.objs.size) (.ref l) (.ref s.heap.objs.size)) _ _ { s with heap := s.heap.push (seqObj "list" #[] 0) }; unfold Builtin.List.listExtendWith
  have ho' : (s.heap.push (seqObj "list" #[] 0)).get? l = some o := Heap.get?_push_of_some _ ho
  refine wpAny_bind (wpAny_typeOf (T := "tuple") ⟨o, ho', hc⟩ ?_)
  have ht : (Value.type "tuple" == Value.type "tuple") = true := by rfl
  rw [if_pos (by rw [ht]; simp)]
  refine wpAny_bind (listItems_at ho' hd ?_); refine wpAny_bind (listItems_at (xs := #[]) (n := 0) nS rfl ?_)
  rw [if_neg (by simp)]; refine wpAny_bind (listUpdate_at (xs := #[]) (n := 0) nS rfl ?_ (Nat.zero_le _) (by show (#[] ++ vs.toArray).size ≤ sizeLine + 1; simp only [Array.size_append, List.size_toArray, List.length_nil]; omega))
  refine wpAny_pure ?_
  show wpAny (model P w) A (do
      let o ← load s.heap.objs.size
      match o.data with
      | .seq xs _ => pure xs.toList
      | _ => unsupported "internal:collect") Q E { s with heap := (s.heap.push (seqObj "list" #[] 0)).update s.heap.objs.size (Obj.mapSeq (· ++ vs.toArray)) }
  refine wpAny_bind (wpAny_load (get?_update_seq nS _) ?_)
  show wpAny _ _ (pure ((#[] : Array Value) ++ vs.toArray).toList) Q E _
  rw [show ((#[] : Array Value) ++ vs.toArray).toList = vs by simp]
  exact wpAny_pure h
/-- sorted(t): a new list, the sorted one -/
theorem sorted_tupvals {P : Program} {w : World} {A : Around} {E : Value → Shared → Prop} {s : Shared} {κ : PyProof.Rows.KeyKind} {l : Addr} {vs : List Value} {Q : Value → Shared → Prop} (hl : IsTup s.heap l vs.toArray) (S : PySem.W.SortsAt P w A.in1.in1 { s with heap := PySem.W.sortingHeap (PySem.W.copyHeap s.heap vs) (s.heap.objs.size + 1) vs } κ vs) (hL : vs.length ≤ sizeLine)
    (h : Q (.ref (s.heap.objs.size + 1)) { s with heap := sortedAll s.heap vs (PySem.W.sortVals κ false vs vs).toArray }) : wpAny (model P w) A (call (.builtin "sorted") [.ref l]) Q E s := by
  refine PySem.Calls.call_function_entry kind_sorted plain_sorted entry_sorted (args_sorted1 _) ?_; unfold Builtin.«sorted»
  refine wpAny_bind (m := checkCount "sorted" 1 1 _) (wpAny_pure ?_); refine wpAny_bind (collect_tup hl hL ?_); refine wpAny_bind (wpAny_newList ?_ hL)
  have hz : ((s.heap.push (seqObj "list" #[] 0)).update s.heap.objs.size (Obj.mapSeq (· ++ vs.toArray))).objs.size = s.heap.objs.size + 1 := (Heap.size_update ..).trans (size_push' ..)
  show wpAny _ _ _ _ _ { s with heap := PySem.W.copyHeap s.heap vs }; rw [hz]
  refine wpAny_bind (wpAny_holding (wpAny_call_entry_kw slot_list_sort ⟨_, PySem.W.copyHeap_at s.heap vs, rfl⟩ entry_list_sort ?bd (args_list_sort _)))
  case bd =>
    exact PySem.W.list_sort_vals (s := { s with heap := PySem.W.copyHeap s.heap vs }) (PySem.W.copyHeap_at s.heap vs) S hL ⟨_, rfl, wpAny_pure ⟨_, rfl, h⟩⟩
end
section
variable {X : Cx} {a : Expr} {p p2 q2 pos : Pos} {ta : Wx}
@[simp] def gSortedT : GC
  | [.tuple xs], Q => PyData.canLayAll0 xs = true ∧ PySem.W.AllAlike xs ∧ PySem.W.Sortable xs ∧ (∀ d ∈ xs, d.depth ≤ 60) ∧ Q (.list (sortD xs))
  | _, _ => False
theorem cd_sortedT (hu : X.A.units + 64 < cLine) : CallD X (.builtin "sorted") gSortedT := by
  intro pins s σ H vs us W pa ds Q' I rv hW hP hb hg
  unfold gSortedT at hg
  split at hg
  · rename_i xs
    obtain ⟨c1, c2, c3, c4, q⟩ := hg
    obtain ⟨v, rfl, b⟩ := hb.one
    obtain ⟨a, ys, rfl, h1, h2, h3⟩ := b.tuple
    obtain ⟨its, rv', hl, hz⟩ := I.tuple h1
    rw [Vals.ref1 rv]
    have ea := each_reads I h2 c1 rv'
    have sz : its.length ≤ sizeLine := by rw [← rv'.length]; exact hz
    have e1 : PySem.W.EachIs (fun v d => ∃ as, Reads (PySem.W.sortingHeap (PySem.W.copyHeap s.heap its) (s.heap.objs.size + 1) its) v d as) its xs :=
      ea.mono fun v d ⟨⟨as, r⟩, _⟩ => ⟨as, PyProof.Rows.Reads.keeps (fun b o e => PySem.W.sorting_copy_old e) r⟩
    refine sorted_tupvals hl (PySem.W.SortsAt.data e1 c2 c3 fun d hd => ?_) sz ?_
    · show X.A.units + 1 + 1 + d.depth < cLine
      have := c4 d hd
      omega
    · have e2 := PySem.W.sortVals_each (κ := PySem.W.dataKind (PySem.W.sortingHeap (PySem.W.copyHeap s.heap its) (s.heap.objs.size + 1) its) xs) (rev := false) (fun d : D => PySem.W.keyToks d) (ea.mono fun v d h => h.2) (PySem.W.each_keys c2 e1)
      obtain ⟨zs, k1, k2⟩ := each_back e2
      obtain ⟨ep, he'⟩ := PyProof.Rows.sortedAll_at s.heap its (PySem.W.sortVals (PySem.W.dataKind (PySem.W.sortingHeap (PySem.W.copyHeap s.heap its) (s.heap.objs.size + 1) its) xs) false its its).toArray
      have hlen : zs.length = xs.length := by rw [k2.length]; exact sortD_len xs
      have hp : H (s.heap.objs.size + 1) = none := I.hok.fresh (Nat.le_succ _)
      exact ⟨.ref _, upd H (s.heap.objs.size + 1) (.lst zs), I.laid (t' := s.toks) (fun _ _ => PyProof.Rows.sortedAll_old) (Nat.le_succ _) ⟨by rw [hlen]; exact h3, _, ep, k1, he'⟩, rfl, .list (sortD xs), q, Ext.new hp, Rep.newL hW hp k2 (by show (sortD xs).length ≤ sizeLine; rw [sortD_len]; exact h3)⟩
  · exact hg.elim
theorem ints_rep {w : World} {K : PySem.W.Frag} {W : Addr → Prop} {H : Hp} : ∀ m : List Int, RepA w K W H (m.map V.int) (m.map .int)
  | [] => .nil
  | x :: m => .cons (.int x) (ints_rep m)
@[simp] def gSSet (Q : D → Prop) : D → Prop
  | .list xs => ∃ ns, intsD xs = some ns ∧ ns.length < 64 ∧ ∀ m : List Int, m.Pairwise (· < ·) → (∀ k, k ∈ m ↔ k ∈ ns) → Q (.list (m.map .int))
  | _ => False
@[simp] def wSortedSet (ta : Wx) : Wx := fun ρ Q => ta ρ (gSSet Q)
theorem q_sortedSet (hg1 : Gl X "sorted") (hm1 : X.mg "sorted" = none) (hg2 : Gl X "set") (hm2 : X.mg "set" = none) (ha : QB X a ta) (hc : X.calm = true := by rfl)
    (na : starEach [a] X.env = (false, eval a X.env) :: starEach [] X.env := by rfl) : QE X (.Call (.Name "sorted" p) [.Call (.Name "set" p2) [a] [] q2] [] pos) (wSortedSet ta) := by
  refine ⟨fun pins s σ H Q I ⟨O, pa, ρ, Q', r, q, k⟩ => ?_⟩
  refine Call_ (ld_blt I hg1 hm1 (by decide +kernel : bootBuiltins "sorted" = some (.builtin "sorted")) ?_)
  refine PyProof.Rows.callWith_builtin1 (PyProof.Rows.args_cons ?_ rfl) rfl rfl
  refine Call_ (ld_blt I hg2 hm2 (by decide +kernel : bootBuiltins "set" = some (.type "set")) ?_)
  refine PyProof.Rows.callWith_type1 (PyProof.Rows.args_cons (thn (runB ha I r q) fun v s1 ⟨x, H1, I1, r1, d, q1, e1, b1⟩ => PyProof.Rows.args_nil ?_) na) na rfl
  unfold gSSet at q1
  split at q1
  · obtain ⟨ns, h1, h2, h3⟩ := q1
    obtain ⟨l, ys, rfl, hq, hr, hz⟩ := b1.list
    cases r1
    have ey := intsD_rep hr h1
    subst ey
    obtain ⟨its, rv, pl, hz2⟩ := I1.list hq
    refine set_of_list ns (I1.ok.hd hc) pl.isList (by simpa using rv.ints) (by unfold scanBound; omega) fun h' tk c hS hle hk => ?_
    refine PyProof.Rows.args_nil ?_
    have I2 : Inv X pins σ H1 { s1 with heap := h', toks := tk } := I1.kept hk
    have r2 := r.ext e1
    have hS2 : SetR X.w ({ s1 with heap := h', toks := tk } : Shared).heap s1.heap.objs.size (fun j => decide (j ∈ ns)) c := hS
    generalize ({ s1 with heap := h', toks := tk } : Shared) = s2 at I2 hS2 ⊢
    clear hk hS
    refine sorted_set (P := X.prog) hS2 (I2.ok.hd hc) (by omega) fun s' p out c2 m kk g o hp hgt hi hpw hm hlen => ?_
    have hn : H1 p = none := I2.hok.fresh hp
    have hlm : (m.map V.int).length ≤ sizeLine := by rw [List.length_map, hlen, sizeLine_eq]; omega
    have J : Inv X pins σ (upd H1 p (.lst (m.map V.int))) { s2 with heap := s'.heap, gens := s'.gens, drawn := s'.drawn, toks := s'.toks } :=
      I2.call (ch := []) (Un.laid kk hp hn) (I2.hok.laid kk hp ⟨hlm, out.toList, c2, vals_of_ints hi, hgt⟩) (by rw [g]; exact I2.bare) (fun _ z => nomatch z)
    have e : s' = { s2 with heap := s'.heap, gens := s'.gens, drawn := s'.drawn, toks := s'.toks } := by
      cases s'; cases s2; cases o; rfl
    rw [e]
    exact ⟨.ref p, _, J, rfl, k _ (h3 m hpw fun k => by rw [hm k]; simp) _ _ (e1.trans (Ext.new hn)) (Rep.newL r2.domW hn (ints_rep m) (by rw [List.length_map] at hlm ⊢; exact hlm))⟩
  · exact q1.elim
end
end DL

namespace DL
open PySem PySem.Spec L2
open PyProof.Rows hiding St

/-! ### shapes, stretches, tables as data -/
def sgn (b : Bool) : Nat := if b then 114 else 108
theorem sgn_inj {a b : Bool} (h : sgn a = sgn b) : a = b := by cases a <;> cases b <;> simp [sgn] at h ⊢
def encS (z : List Bool) : Str := ⟨(z.map sgn).toArray⟩
@[simp] theorem encS_len (z : List Bool) : (encS z).length = z.length := by simp [encS, Str.length]
@[simp] theorem encS_inj {z y : List Bool} : encS z = encS y ↔ z = y := by
  refine ⟨fun h => ?_, fun h => by rw [h]⟩
  have h2 : (z.map sgn).toArray = (y.map sgn).toArray := Str.mk.inj h
  have h3 : z.map sgn = y.map sgn := by simpa using congrArg Array.toList h2
  exact (List.map_inj_right (f := sgn) (fun a b => sgn_inj)).mp h3
@[simp] theorem encS_ok (z : List Bool) : PyData.canLay0 (.str (encS z)) = true := by
  simp [PyData.canLay0, PyData.strOk, encS]
  exact ⟨fun _ => by decide, fun _ => by decide⟩
abbrev chS (b : Bool) : Str := encS [b]
theorem atI_lt {α : Type} {xs : List α} {k : Int} (h0 : 0 ≤ k) (h1 : k < xs.length) : atI xs k = xs[k.toNat]? := by
  unfold atI ixN
  rw [if_pos h0, if_pos h1]
  rfl
theorem atI_encS {z : List Bool} {k : Int} (h0 : 0 ≤ k) (h1 : k < z.length) : ∃ b, z[k.toNat]? = some b ∧ atI (encS z).cps.toList k = some (sgn b) := by
  have hk : k.toNat < z.length := by omega
  refine ⟨z[k.toNat], List.getElem?_eq_getElem hk, ?_⟩
  simp only [encS]
  rw [atI_lt h0 (by simpa using h1), List.getElem?_map, List.getElem?_eq_getElem hk]
  rfl
@[simp] theorem atI_0 {α} (x : α) (xs : List α) : atI (x :: xs) 0 = some x := by simp [atI, ixN]
@[simp] theorem atI_1 {α} (x y : α) (xs : List α) : atI (x :: y :: xs) 1 = some y := by
  simp [atI, ixN]
  rw [if_pos (by omega)]
  rfl
@[simp] theorem atI_2 {α} (x y w : α) (xs : List α) : atI (x :: y :: w :: xs) 2 = some w := by
  simp [atI, ixN]
  rw [if_pos (by omega)]
  rfl
theorem str_r : (Str.ofString "r") = encS [true] := by decide
theorem str_l : (Str.ofString "l") = encS [false] := by decide
theorem str_e : (Str.ofString "") = encS [] := by decide
theorem one_ch (b : Bool) : (⟨#[sgn b]⟩ : Str) = encS [b] := by cases b <;> rfl
/-- a letter of a shape, as s[k] -/
theorem ix_encS {z : List Bool} {k : Int} {Q : D → Prop} (h0 : 0 ≤ k) (h1 : k < z.length) (hz : z.length ≤ 1000) (q : ∀ b, z[k.toNat]? = some b → Q (.str (encS [b]))) : gIx (.str (encS z)) (.int k) Q := by
  obtain ⟨b, e1, e2⟩ := atI_encS h0 h1
  refine ⟨by rw [encS_len]; exact le1000 hz, _, e2, ?_⟩
  rw [one_ch]
  exact q b e1
@[simp] theorem cl_int (i : Int) : PyData.canLay0 (.int i) = true := rfl
@[simp] theorem cl_bool (i : Bool) : PyData.canLay0 (.bool i) = true := rfl
@[simp] theorem cl_none : PyData.canLay0 .none = true := rfl
@[simp] theorem cl_tuple (xs : List D) : PyData.canLay0 (.tuple xs) = PyData.canLayAll0 xs := by simp [PyData.canLay0]
@[simp] theorem cl_list (xs : List D) : PyData.canLay0 (.list xs) = PyData.canLayAll0 xs := by simp [PyData.canLay0]
@[simp] theorem cl_nil : PyData.canLayAll0 [] = true := rfl
@[simp] theorem cl_cons (x : D) (xs : List D) : PyData.canLayAll0 (x :: xs) = (PyData.canLay0 x && PyData.canLayAll0 xs) := by simp [PyData.canLayAll0]
theorem cl_all {xs : List D} (h : ∀ x ∈ xs, PyData.canLay0 x = true) : PyData.canLayAll0 xs = true := by
  induction xs with
  | nil => rfl
  | cons x xs ih => rw [cl_cons, h x List.mem_cons_self, ih fun y hy => h y (List.mem_cons_of_mem _ hy)]; rfl
@[simp] theorem dp_int (i : Int) : PyData.depth (.int i) = 0 := rfl
@[simp] theorem dp_bool (i : Bool) : PyData.depth (.bool i) = 0 := rfl
@[simp] theorem dp_str (i : Str) : PyData.depth (.str i) = 0 := rfl
@[simp] theorem dp_none : PyData.depth .none = 0 := rfl
@[simp] theorem dp_tuple (xs : List D) : PyData.depth (.tuple xs) = PyData.depthAll xs + 1 := by simp [PyData.depth]
@[simp] theorem dp_list (xs : List D) : PyData.depth (.list xs) = PyData.depthAll xs + 1 := by simp [PyData.depth]
@[simp] theorem dp_nil : PyData.depthAll [] = 0 := rfl
@[simp] theorem dp_cons (x : D) (xs : List D) : PyData.depthAll (x :: xs) = max x.depth (PyData.depthAll xs) := by simp [PyData.depthAll]
theorem dp_all {xs : List D} {n : Nat} (h : ∀ x ∈ xs, x.depth ≤ n) : PyData.depthAll xs ≤ n := by
  induction xs with
  | nil => simp
  | cons x xs ih => rw [dp_cons]; exact Nat.max_le.mpr ⟨h x List.mem_cons_self, ih fun y hy => h y (List.mem_cons_of_mem _ hy)⟩
@[simp] theorem ev_int (i j : Int) : PyData.eqv (.int i) (.int j) = decide (i = j) := by
  simp only [PyData.eqv]
  rw [Bool.eq_iff_iff]
  simp
@[simp] theorem ev_bool (i j : Bool) : PyData.eqv (.bool i) (.bool j) = decide (i = j) := by
  simp only [PyData.eqv]
  rw [Bool.eq_iff_iff]
  simp
@[simp] theorem ev_tuple (xs ys : List D) : PyData.eqv (.tuple xs) (.tuple ys) = PyData.eqvAll xs ys := by simp [PyData.eqv]
@[simp] theorem ev_list (xs ys : List D) : PyData.eqv (.list xs) (.list ys) = PyData.eqvAll xs ys := by simp [PyData.eqv]
@[simp] theorem ev_nn : PyData.eqvAll [] [] = true := rfl
@[simp] theorem ev_cc (x y : D) (xs ys : List D) : PyData.eqvAll (x :: xs) (y :: ys) = (PyData.eqv x y && PyData.eqvAll xs ys) := by simp [PyData.eqvAll]
@[simp] theorem ev_nc (y : D) (ys : List D) : PyData.eqvAll [] (y :: ys) = false := rfl
@[simp] theorem ev_cn (y : D) (ys : List D) : PyData.eqvAll (y :: ys) [] = false := rfl
theorem boolsD_mapf {α : Type} (f : α → Bool) (l : List α) : boolsD (l.map fun a => .bool (f a)) = some (l.map f) := by
  induction l with
  | nil => rfl
  | cons x l ih => simp [boolsD, ih]
theorem intsD_mapf {α : Type} (f : α → Int) (l : List α) : intsD (l.map fun a => .int (f a)) = some (l.map f) := by
  induction l with
  | nil => rfl
  | cons x l ih => simp [intsD, ih]
theorem strsD_mapf {α : Type} (f : α → Str) (l : List α) : strsD (l.map fun a => .str (f a)) = some (l.map f) := by
  induction l with
  | nil => rfl
  | cons x l ih => simp [strsD, ih]
theorem sum_ones {α : Type} (l : List α) : (l.map fun _ => 1).sum = l.length := by
  induction l with
  | nil => rfl
  | cons x l ih => simp [ih]; omega
theorem flat_one {α β : Type} (f : α → β) (l : List α) : (l.map fun a => [f a]).flatten = l.map f := by
  induction l with
  | nil => rfl
  | cons x l ih => simp [ih]
theorem filterMap_if {α β : Type} (p : α → Bool) (g : α → β) (l : List α) : l.filterMap (fun r => if p r = true then some (g r) else none) = (l.filter p).map g := by
  induction l with
  | nil => rfl
  | cons r t ih =>
    rw [List.filter_cons]
    by_cases h : p r = true
    · rw [List.filterMap_cons_some (b := g r) (by rw [if_pos h]), if_pos h, List.map_cons, ih]
    · rw [List.filterMap_cons_none (by rw [if_neg h]), if_neg h, ih]
theorem joinL_nil : ∀ l : List (List Nat), TL.joinL [] l = l.flatten
  | [] => rfl
  | [p] => by simp [TL.joinL]
  | p :: q :: r => by
    show p ++ ([] ++ TL.joinL [] (q :: r)) = _
    rw [joinL_nil (q :: r)]
    simp
theorem join_enc (l : List (List Bool)) : Txt.join (Str.ofString "") (l.map encS) = encS l.flatten := by
  rw [TL.join_eq]
  have h := TL.tl_join (Str.ofString "") (l.map encS)
  have e : TL.tl (Str.ofString "") = [] := by decide
  rw [e, joinL_nil] at h
  have h2 : TL.tl (encS l.flatten) = ((l.map encS).map TL.tl).flatten := by
    simp only [TL.tl, encS, List.map_map, List.map_flatten]
    congr 1
  rw [← h2] at h
  have h3 : (Str.join (Str.ofString "") (l.map encS)).cps = (encS l.flatten).cps := Array.toList_inj.mp h
  cases hx : Str.join (Str.ofString "") (l.map encS)
  cases hy : encS l.flatten
  rw [hx, hy] at h3
  simpa using h3
theorem cutD_hi {α : Type} {xs : List α} {k : Int} (h0 : 0 ≤ k) (h1 : k ≤ xs.length) : cutD xs none (some k) = xs.take k.toNat := by
  unfold cutD HT.sIx
  simp only []
  rw [if_neg (by omega), Nat.sub_zero, List.drop_zero, Nat.min_eq_left (by omega)]
theorem cutD_lo {α : Type} {xs : List α} {k : Int} (h0 : 0 ≤ k) (h1 : k ≤ xs.length) : cutD xs (some k) none = xs.drop k.toNat := by
  unfold cutD HT.sIx
  simp only []
  rw [if_neg (by omega), Nat.min_eq_left (by omega), List.take_of_length_le (by rw [List.length_drop]; omega)]
theorem gIx_list {xs : List D} {i : Int} {Q : D → Prop} : gIx (.list xs) (.int i) Q ↔ ∃ d, atI xs i = some d ∧ Q d := Iff.rfl
theorem gIx_tuple {xs : List D} {i : Int} {Q : D → Prop} : gIx (.tuple xs) (.int i) Q ↔ ∃ d, atI xs i = some d ∧ Q d := Iff.rfl
@[simp] theorem eqv_encS (z y : List Bool) : PyData.eqv (.str (encS z)) (.str (encS y)) = decide (z = y) := by
  simp [PyData.eqv]
  rw [Bool.eq_iff_iff]
  simp
end DL

namespace DL
open PySem PySem.Spec L2
open PyProof.Rows hiding St

/-! ### arrows -/
def chZ (z : List Bool) (k : Int) : Bool := (z[k.toNat]?).getD true
theorem chZ_of {z : List Bool} {k : Int} {b : Bool} (e : z[k.toNat]? = some b) : chZ z k = b := by unfold chZ; rw [e]; rfl
theorem ix_iff {z : List Bool} {k : Int} (h0 : 0 ≤ k) (h1 : k < z.length) (hz : z.length ≤ 1000) (Q : D → Prop) : gIx (.str (encS z)) (.int k) Q ↔ Q (.str (encS [chZ z k])) := by
  refine ⟨fun h => ?_, fun h => ix_encS h0 h1 hz fun b e => by rw [chZ_of e] at h; exact h⟩
  obtain ⟨b, e1, e2⟩ := atI_encS h0 h1
  obtain ⟨_, c, e3, q⟩ := h
  rw [e2] at e3
  cases e3
  rw [one_ch] at q
  rw [chZ_of e1]
  exact q
def arrowM (z : List Bool) (k : Int) : Int × Int := if chZ z k = true then (k, k + 1) else (k + 1, k)
def W_arrow : GC := fun ds Q => ∃ z k, ds = [.str (encS z), .int k] ∧ 0 ≤ k ∧ k < z.length ∧ z.length ≤ 1000 ∧ Q (.tuple [.int (arrowM z k).1, .int (arrowM z k).2])
def t_arrow : Ws := (wRet (wIfE (wT (w2 gEq (w2 gIx (wVar 0) (wVar 1)) (wC (.str "r")))) (wTup (waCons (wVar 1) (waCons (w2 gAdd (wVar 1) (wC (.int 1))) waNil))) (wTup (waCons (w2 gAdd (wVar 1) (wC (.int 1))) (waCons (wVar 1) waNil)))))
abbrev N_arrow : List Str := ["shape", "k"]
theorem r_arrow : ∀ ds Q', ds.length = 2 → W_arrow ds Q' → t_arrow { nx := fun _ => Q' .none, rt := Q' } (start0 N_arrow ds) := by
  rintro _ Q' _ ⟨z, k, rfl, h0, h1, h2, q⟩
  simp [t_arrow, -gIx, str_r, str_l]
  refine ix_encS h0 h1 h2 fun b e => ?_
  rw [arrowM, chZ_of e] at q
  cases b <;> simpa [PyData.depth, PyData.depthAll] using q
def besideM (z : List Bool) (k : Int) : List Int := [k - 1, k].filter fun a => decide (0 ≤ a ∧ a < z.length)
def W_beside_arrows : GC := fun ds Q => ∃ z k, ds = [.str (encS z), .int k] ∧ z.length ≤ 1000 ∧ Q (.list ((besideM z k).map .int))
def t_beside_arrows : Ws := (wRet (wLc (wiSeq (wTup (waCons (w2 gSub (wVar 1) (wC (.int 1))) (waCons (wVar 1) waNil)))) [2] (gN 2) (wT (wChain gLe gLt (wC (.int 0)) (wVar 2) (wCB gLen (waCons (wVar 0) waNil)))) (wVar 2)))
abbrev N_beside_arrows : List Str := ["shape", "k", "a"]
theorem r_beside_arrows : ∀ ds Q', ds.length = 2 → W_beside_arrows ds Q' → t_beside_arrows { nx := fun _ => Q' .none, rt := Q' } (start0 N_beside_arrows ds) := by
  rintro _ Q' _ ⟨z, k, rfl, h2, q⟩
  have hz : z.length ≤ sizeLine := le1000 h2
  simp [t_beside_arrows, -gIx, str_r, str_l, hz]
  (repeat' split) <;> first
    | (exfalso; omega)
    | (revert q
       simp only [besideM, List.filter_cons, List.filter_nil, decide_eq_true_eq]
       (repeat' split) <;> first | (intro q; exact q) | (exfalso; omega))
def isIn (z : List Bool) (k : Int) : Bool := (besideM z k).all fun a => decide ((arrowM z a).2 = k)
def isOut (z : List Bool) (k : Int) : Bool := (besideM z k).all fun a => decide ((arrowM z a).1 = k)
theorem beside_ok {z : List Bool} {k a : Int} (h : a ∈ besideM z k) : 0 ≤ a ∧ a < z.length ∧ (a = k - 1 ∨ a = k) := by
  unfold besideM at h
  simp [List.mem_filter] at h
  omega
theorem beside_len (z : List Bool) (k : Int) : (besideM z k).length ≤ 2 := by
  unfold besideM
  exact Nat.le_trans (List.length_filter_le _ _) (by simp)
theorem all_map {α : Type} (p : α → Bool) (l : List α) : (l.map p).all id = l.all p := by simp [List.all_map]
def W_is_in : GC := fun ds Q => ∃ z k, ds = [.str (encS z), .int k] ∧ z.length ≤ 1000 ∧ Q (.bool (isIn z k))
def W_is_out : GC := fun ds Q => ∃ z k, ds = [.str (encS z), .int k] ∧ z.length ≤ 1000 ∧ Q (.bool (isOut z k))
def t_is_in : Ws := (wRet (wCB gAll (waCons (wLc (wiSeq (wCall 2 (W_beside_arrows) (waCons (wVar 0) (waCons (wVar 1) waNil)))) [2] (gN 2) wYes (w2 gEq (w2 gIx (wCall 2 (W_arrow) (waCons (wVar 0) (waCons (wVar 2) waNil))) (wC (.int 1))) (wVar 1))) waNil)))
abbrev N_is_in : List Str := ["shape", "k", "a"]
theorem r_is_in : ∀ ds Q', ds.length = 2 → W_is_in ds Q' → t_is_in { nx := fun _ => Q' .none, rt := Q' } (start0 N_is_in ds) := by
  rintro _ Q' _ ⟨z, k, rfl, h2, q⟩
  simp [t_is_in, -gIx, W_beside_arrows, W_arrow, h2, and_assoc]
  refine lcW_map .int (fun a => .bool (decide ((arrowM z a).2 = k))) _ (fun a ha Q2 q2 => ?_) ?_
  · obtain ⟨h3, h4, h5⟩ := beside_ok ha
    simp [-gIx, gIx_tuple, h3, h4, h2, W_arrow, and_assoc]
    exact q2
  · refine ⟨_, boolsD_mapf (fun a => decide ((arrowM z a).2 = k)) _, ?_⟩
    rw [all_map]
    exact q
def t_is_out : Ws := (wRet (wCB gAll (waCons (wLc (wiSeq (wCall 2 (W_beside_arrows) (waCons (wVar 0) (waCons (wVar 1) waNil)))) [2] (gN 2) wYes (w2 gEq (w2 gIx (wCall 2 (W_arrow) (waCons (wVar 0) (waCons (wVar 2) waNil))) (wC (.int 0))) (wVar 1))) waNil)))
abbrev N_is_out : List Str := ["shape", "k", "a"]
theorem r_is_out : ∀ ds Q', ds.length = 2 → W_is_out ds Q' → t_is_out { nx := fun _ => Q' .none, rt := Q' } (start0 N_is_out ds) := by
  rintro _ Q' _ ⟨z, k, rfl, h2, q⟩
  simp [t_is_out, -gIx, W_beside_arrows, W_arrow, h2, and_assoc]
  refine lcW_map .int (fun a => .bool (decide ((arrowM z a).1 = k))) _ (fun a ha Q2 q2 => ?_) ?_
  · obtain ⟨h3, h4, h5⟩ := beside_ok ha
    simp [-gIx, gIx_tuple, h3, h4, h2, W_arrow, and_assoc]
    exact q2
  · refine ⟨_, boolsD_mapf (fun a => decide ((arrowM z a).1 = k)) _, ?_⟩
    rw [all_map]
    exact q
def turnedM (z : List Bool) (k : Int) : List Bool := (List.range z.length).map fun (a : Nat) => if (a : Int) ∈ besideM z k then !(chZ z a) else chZ z a
def W_turned_shape : GC := fun ds Q => ∃ z k, ds = [.str (encS z), .int k] ∧ z.length ≤ 1000 ∧ Q (.str (encS (turnedM z k)))
def t_turned_shape : Ws := (wSeq (wSet 2 (wDispC [("r", "l"), ("l", "r")])) (wRet (wJoin (wC (.str "")) (wLc (wiR1 (waCons (wCB gLen (waCons (wVar 0) waNil)) waNil)) [3] (gN 3) wYes (wIfE (wT (w2 gIn (wVar 3) (wCall 2 (W_beside_arrows) (waCons (wVar 0) (waCons (wVar 1) waNil))))) (w2 gDgetS (wVar 2) (w2 gIx (wVar 0) (wVar 3))) (w2 gIx (wVar 0) (wVar 3)))))))
abbrev N_turned_shape : List Str := ["shape", "k", "other", "a"]
theorem r_turned_shape : ∀ ds Q', ds.length = 2 → W_turned_shape ds Q' → t_turned_shape { nx := fun _ => Q' .none, rt := Q' } (start0 N_turned_shape ds) := by
  rintro _ Q' _ ⟨z, k, rfl, h2, q⟩
  have hz : z.length ≤ sizeLine := le1000 h2
  simp [t_turned_shape, -gIx, W_beside_arrows, h2, hz, and_assoc, rgD]
  refine ⟨by decide, by omega, ?_⟩
  refine lcW_map (fun a : Nat => .int (a : Int)) (fun a : Nat => .str (encS [if (a : Int) ∈ besideM z k then !(chZ z a) else chZ z a])) _ (fun a ha Q2 q2 => ?_) ?_
  · have ha' : (a : Int) < z.length := by have := List.mem_range.mp ha; omega
    simp [-gIx, W_beside_arrows, h2, and_assoc, hz]
    refine ⟨cl_all (by simp), ?_⟩
    split
    · rename_i hm
      rw [if_pos hm] at q2
      refine ix_encS (by omega) ha' h2 fun b e => ?_
      rw [chZ_of e] at q2
      show ∃ d, dlook [(.str (Str.ofString "r"), .str (Str.ofString "l")), (.str (Str.ofString "l"), .str (Str.ofString "r"))] (.str (encS [b])) = some d ∧ Q2 (some d)
      cases b
      · exact ⟨.str (encS [true]), by decide, q2⟩
      · exact ⟨.str (encS [false]), by decide, q2⟩
    · rename_i hm
      rw [if_neg hm] at q2
      refine ix_encS (by omega) ha' h2 fun b e => ?_
      rw [chZ_of e] at q2
      exact q2
  · refine ⟨_, strsD_mapf (fun a : Nat => encS [if (a : Int) ∈ besideM z k then !(chZ z a) else chZ z a]) _, ?_, ?_⟩
    · have e : (Str.ofString "").length = 0 := by decide
      rw [e, Nat.mul_zero, Nat.add_zero, List.map_map]
      rw [show ((fun x : Str => x.length) ∘ fun a : Nat => encS [if (a : Int) ∈ besideM z k then !(chZ z a) else chZ z a]) = fun _ => 1 from funext fun a => by simp]
      rw [sum_ones, List.length_range]
      omega
    · rw [show (fun a : Nat => encS [if (a : Int) ∈ besideM z k then !(chZ z a) else chZ z a]) = encS ∘ (fun a : Nat => [if (a : Int) ∈ besideM z k then !(chZ z a) else chZ z a]) from rfl, ← List.map_map, join_enc]
      rw [show ((List.range z.length).map fun a : Nat => [if (a : Int) ∈ besideM z k then !(chZ z a) else chZ z a]).flatten = turnedM z k from flat_one _ _]
      exact q
/-! ### stretches and tables -/
abbrev Pr := Int × Int
abbrev Tab := List (Pr × Int)
@[simp] def encP (p : Pr) : D := .tuple [.int p.1, .int p.2]
@[simp] def encR (r : Pr × Int) : D := .tuple [.tuple [.int r.1.1, .int r.1.2], .int r.2]
def encT (t : Tab) : D := .tuple (t.map encR)
@[simp] def encO : Option Pr → D
  | none => .none
  | some p => .tuple [.int p.1, .int p.2]
def turnP (k : Int) (p : Pr) : Option Pr :=
  if p.1 = k ∧ p.2 = k then none else if p.2 = k - 1 then some (p.1, k) else if p.1 = k + 1 then some (k, p.2) else if p.2 = k then some (p.1, k - 1) else if p.1 = k then some (k + 1, p.2) else some p
def W_stretch_turned : GC := fun ds Q => ∃ k i j, ds = [.int k, .tuple [.int i, .int j]] ∧ Q (encO (turnP k (i, j)))
def t_stretch_turned : Ws := (wSeq (wAsg (wVar 1) (gT [(gN 2), (gN 3)])) (wSeq (wIf (wT (w2 gEq (wTup (waCons (wVar 2) (waCons (wVar 3) waNil))) (wTup (waCons (wVar 0) (waCons (wVar 0) waNil))))) (wRet (wC .none)) wNext) (wSeq (wIf (wT (w2 gEq (wVar 3) (w2 gSub (wVar 0) (wC (.int 1))))) (wRet (wTup (waCons (wVar 2) (waCons (wVar 0) waNil)))) wNext) (wSeq (wIf (wT (w2 gEq (wVar 2) (w2 gAdd (wVar 0) (wC (.int 1))))) (wRet (wTup (waCons (wVar 0) (waCons (wVar 3) waNil)))) wNext) (wSeq (wIf (wT (w2 gEq (wVar 3) (wVar 0))) (wRet (wTup (waCons (wVar 2) (waCons (w2 gSub (wVar 0) (wC (.int 1))) waNil)))) wNext) (wRet (wIfE (wT (w2 gEq (wVar 2) (wVar 0))) (wTup (waCons (w2 gAdd (wVar 0) (wC (.int 1))) (waCons (wVar 3) waNil))) (wTup (waCons (wVar 2) (waCons (wVar 3) waNil))))))))))
abbrev N_stretch_turned : List Str := ["k", "stretch", "i", "j"]
theorem r_stretch_turned : ∀ ds Q', ds.length = 2 → W_stretch_turned ds Q' → t_stretch_turned { nx := fun _ => Q' .none, rt := Q' } (start0 N_stretch_turned ds) := by
  rintro _ Q' _ ⟨k, i, j, rfl, q⟩
  simp [t_stretch_turned]
  revert q
  unfold turnP
  simp only []
  (repeat' split) <;> intro q <;> simp_all
def okR (r : Pr × Int) : Prop := -(2 ^ 32) < r.2 ∧ r.2 < 2 ^ 32
theorem encR_inj {r s : Pr × Int} (h : encR r = encR s) : r = s := by
  obtain ⟨⟨a, b⟩, c⟩ := r
  obtain ⟨⟨d, e⟩, f⟩ := s
  simpa [encR, and_assoc] using h
@[simp] theorem encT_inj {t u : Tab} : encT t = encT u ↔ t = u := by
  refine ⟨fun h => ?_, fun h => by rw [h]⟩
  have h2 : t.map encR = u.map encR := PyData.tuple.inj h
  exact (List.map_inj_right (f := encR) (fun a b => encR_inj)).mp h2
@[simp] theorem encT_one {a b m : Int} {x : Tab} : (PyData.tuple [PyData.tuple [PyData.tuple [PyData.int a, PyData.int b], PyData.int m]] = encT x) ↔ [((a, b), m)] = x := by
  rw [show PyData.tuple [PyData.tuple [PyData.tuple [PyData.int a, PyData.int b], PyData.int m]] = encT [((a, b), m)] from rfl, encT_inj]
@[simp] theorem encT_none {x : Tab} : (PyData.tuple [] = encT x) ↔ [] = x := by
  rw [show PyData.tuple [] = encT [] from rfl, encT_inj]
theorem encR_ok (r : Pr × Int) : (encR r).canLay0 = true := by simp
theorem encR_dp (r : Pr × Int) : (encR r).depth = 2 := by simp
/-- the rows in Python's order -/
def sortT (t : Tab) : Tab := t.mergeSort fun a b => PySem.W.dataLe false id (encR a) (encR b)
theorem sortT_perm (t : Tab) : (sortT t).Perm t := List.mergeSort_perm _ _
theorem sortD_T (t : Tab) : sortD (t.map encR) = (sortT t).map encR := by
  unfold sortD sortT
  rw [List.map_mergeSort]
  intro a _ b _
  rfl
theorem alike_R (t : Tab) : PySem.W.AllAlike (t.map encR) := by
  intro d hd d' hd'
  obtain ⟨r, _, rfl⟩ := List.mem_map.mp hd
  obtain ⟨s, _, rfl⟩ := List.mem_map.mp hd'
  simp [PySem.W.alike, PySem.W.alikeAll]
theorem sortable_R (t : Tab) : PySem.W.Sortable (t.map encR) := by
  refine .inl fun d hd => ?_
  obtain ⟨r, _, rfl⟩ := List.mem_map.mp hd
  exact ⟨_, _, rfl⟩
theorem gSorted_T {t : Tab} {Q : D → Prop} (q : Q (.list ((sortT t).map encR))) : gSorted [.list (t.map encR)] Q := by
  refine ⟨cl_all fun x hx => ?_, alike_R t, sortable_R t, fun d hd => ?_, by rw [sortD_T]; exact q⟩
  · obtain ⟨r, _, rfl⟩ := List.mem_map.mp hx
    exact encR_ok r
  · obtain ⟨r, _, rfl⟩ := List.mem_map.mp hd
    rw [encR_dp]
    decide
def turnT (k : Int) (t : Tab) : Tab := sortT (t.filterMap fun r => (turnP k r.1).map (·, r.2))
def W_table_turned : GC := fun ds Q => ∃ k t, ds = [.int k, encT t] ∧ t.length ≤ 1000 ∧ Q (encT (turnT k t))
def t_table_turned : Ws := (wSeq (wSet 2 (wLc (wiSeq (wVar 1)) [3, 4] (gT [(gN 3), (gN 4)]) (wT (w2 gNotN (wCall 2 (W_stretch_turned) (waCons (wVar 0) (waCons (wVar 3) waNil))) (wC .none))) (wTup (waCons (wCall 2 (W_stretch_turned) (waCons (wVar 0) (waCons (wVar 3) waNil))) (waCons (wVar 4) waNil))))) (wRet (wCB gTupOf (waCons (wCB gSorted (waCons (wVar 2) waNil)) waNil))))
abbrev N_table_turned : List Str := ["k", "table", "rows", "stretch", "many"]
theorem r_table_turned : ∀ ds Q', ds.length = 2 → W_table_turned ds Q' → t_table_turned { nx := fun _ => Q' .none, rt := Q' } (start0 N_table_turned ds) := by
  rintro _ Q' _ ⟨k, t, rfl, h2, q⟩
  simp [t_table_turned, encT, -gSorted]
  refine lcW_opt encR (fun r => (turnP k r.1).map fun p => encR (p, r.2)) t [] (fun r hr Q2 q2 => ?_) ?_
  · simp [W_stretch_turned, and_assoc]
    have e : turnP k (r.1.1, r.1.2) = turnP k r.1 := rfl
    rw [e]
    cases h : turnP k r.1 with
    | none => rw [h] at q2; simpa using q2
    | some p => rw [h] at q2; simpa using q2
  · have e : t.filterMap (fun r => (turnP k r.1).map fun p => encR (p, r.2)) = (t.filterMap fun r => (turnP k r.1).map (·, r.2)).map encR := by
      rw [List.map_filterMap]
      congr 1
      funext r
      cases turnP k r.1 <;> rfl
    rw [List.nil_append, e]
    exact gSorted_T q
/-! ### sizes -/
def encI (l : List Int) : D := .tuple (l.map .int)
@[simp] theorem encI_inj {t u : List Int} : encI t = encI u ↔ t = u := by
  refine ⟨fun h => ?_, fun h => by rw [h]⟩
  have h2 : t.map PyData.int = u.map PyData.int := PyData.tuple.inj h
  exact (List.map_inj_right (f := PyData.int) (fun a b h => PyData.int.inj h)).mp h2
def getI (l : List Int) (k : Int) : Int := (l[k.toNat]?).getD 0
theorem atI_int {l : List Int} {k : Int} (h0 : 0 ≤ k) (h1 : k < l.length) : atI (l.map PyData.int) k = some (.int (getI l k)) := by
  have hk : k.toNat < l.length := by omega
  rw [atI_lt h0 (by simpa using h1), List.getElem?_map, List.getElem?_eq_getElem hk]
  simp [getI, List.getElem?_eq_getElem hk]
def aroundM (l : List Int) (k : Int) : Int := ((([k - 1, k + 1] : List Int).filter fun a => decide (0 ≤ a ∧ a < (l.length : Int))).map (getI l)).sum
def sizesTurned (l : List Int) (k : Int) : List Int := l.take k.toNat ++ [aroundM l k - getI l k] ++ l.drop (k.toNat + 1)
def W_sizes_turned : GC := fun ds Q => ∃ l k, ds = [encI l, .int k] ∧ 0 ≤ k ∧ k < l.length ∧ l.length ≤ 1000 ∧ Q (encI (sizesTurned l k))
def t_sizes_turned : Ws := (wSeq (wSet 2 (wCB gSum (waCons (wLc (wiSeq (wTup (waCons (w2 gSub (wVar 1) (wC (.int 1))) (waCons (w2 gAdd (wVar 1) (wC (.int 1))) waNil)))) [3] (gN 3) (wT (wChain gLe gLt (wC (.int 0)) (wVar 3) (wCB gLen (waCons (wVar 0) waNil)))) (w2 gIx (wVar 0) (wVar 3))) waNil))) (wRet (w2 gAdd (w2 gAdd (wSl (wVar 0) woNone (woSome (wVar 1))) (wTup (waCons (w2 gSub (wVar 2) (w2 gIx (wVar 0) (wVar 1))) waNil))) (wSl (wVar 0) (woSome (w2 gAdd (wVar 1) (wC (.int 1)))) woNone))))
abbrev N_sizes_turned : List Str := ["sizes", "k", "around", "a"]
theorem r_sizes_turned : ∀ ds Q', ds.length = 2 → W_sizes_turned ds Q' → t_sizes_turned { nx := fun _ => Q' .none, rt := Q' } (start0 N_sizes_turned ds) := by
  rintro _ Q' _ ⟨l, k, rfl, h0, h1, h2, q⟩
  have a0 : atI (l.map PyData.int) k = some (.int (getI l k)) := atI_int h0 h1
  have b1 : 1 ≤ k → atI (l.map PyData.int) (k - 1) = some (.int (getI l (k - 1))) := fun h => atI_int (by omega) (by omega)
  have b2 : k + 1 < l.length → atI (l.map PyData.int) (k + 1) = some (.int (getI l (k + 1))) := fun h => atI_int (by omega) (by omega)
  have c1 : cutD (l.map PyData.int) none (some k) = (l.take k.toNat).map .int := by rw [cutD_hi h0 (by simp; omega), List.map_take]
  have c2 : cutD (l.map PyData.int) (some (k + 1)) none = (l.drop (k.toNat + 1)).map .int := by
    rw [cutD_lo (by omega) (by simp; omega), List.map_drop, show (k + 1).toNat = k.toNat + 1 by omega]
  have h5 : k - 1 < l.length := by omega
  have h6 : 0 ≤ k + 1 := by omega
  have e1 : (l.take k.toNat).length = k.toNat := by rw [List.length_take]; omega
  have e2 : (l.drop (k.toNat + 1)).length = l.length - (k.toNat + 1) := List.length_drop
  have s1 : k.toNat + 1 ≤ sizeLine := le1000 (by omega)
  have s2 : k.toNat + 1 + (l.length - (k.toNat + 1)) ≤ sizeLine := le1000 (by omega)
  have q' : Q' (.tuple ((l.take k.toNat).map .int ++ .int (aroundM l k - getI l k) :: (l.drop (k.toNat + 1)).map .int)) := by
    have e : (l.take k.toNat).map PyData.int ++ .int (aroundM l k - getI l k) :: (l.drop (k.toNat + 1)).map .int = (sizesTurned l k).map .int := by simp [sizesTurned]
    rw [e]
    exact q
  unfold aroundM at q'
  by_cases h3 : 1 ≤ k <;> by_cases h4 : k + 1 < l.length
  all_goals
    (simp [t_sizes_turned, encI, a0, b1, b2, c1, c2, h3, h4, h5, h6, intsD, s1, s2, List.filter_cons] at q' ⊢)
  all_goals exact ⟨le1000 (by omega), le1000 (by omega), q'⟩
end DL

namespace DL
open PySem PySem.Spec L2
open PyProof.Rows hiding St

/-! ### maps between stretches -/
def leadsOn (z : List Bool) (x y : Pr) : Int :=
  let low := if y.1 > x.1 then y.1 else x.1
  let high := if y.2 < x.2 then y.2 else x.2
  if high < low then 0
  else if (x.1 < low ∧ chZ z (low - 1) = true) ∨ (y.1 < low ∧ chZ z (low - 1) = false) then 0
  else if (high < x.2 ∧ chZ z high = false) ∨ (high < y.2 ∧ chZ z high = true) then 0
  else 1
def okP (n : Nat) (p : Pr) : Prop := 0 ≤ p.1 ∧ p.1 ≤ p.2 ∧ p.2 ≤ n
def W_leads_on : GC := fun ds Q => ∃ (z : List Bool) (a b c d : Int), ds = [.str (encS z), .tuple [.int a, .int b], .tuple [.int c, .int d]] ∧ okP z.length (a, b) ∧ okP z.length (c, d) ∧ z.length ≤ 1000 ∧ Q (.int (leadsOn z (a, b) (c, d)))
def t_leads_on : Ws := (wSeq (wPar 3 4 (waCons (wCB gMax2 (waCons (w2 gIx (wVar 1) (wC (.int 0))) (waCons (w2 gIx (wVar 2) (wC (.int 0))) waNil))) (waCons (wCB gMin2 (waCons (w2 gIx (wVar 1) (wC (.int 1))) (waCons (w2 gIx (wVar 2) (wC (.int 1))) waNil))) waNil))) (wSeq (wIf (wT (w2 gGt (wVar 3) (wVar 4))) (wRet (wC (.int 0))) wNext) (wSeq (wIf (wOr (wAnd (wT (w2 gLt (w2 gIx (wVar 1) (wC (.int 0))) (wVar 3))) (wT (w2 gNe (w2 gIx (wVar 0) (w2 gSub (wVar 3) (wC (.int 1)))) (wC (.str "l"))))) (wAnd (wT (w2 gLt (w2 gIx (wVar 2) (wC (.int 0))) (wVar 3))) (wT (w2 gNe (w2 gIx (wVar 0) (w2 gSub (wVar 3) (wC (.int 1)))) (wC (.str "r")))))) (wRet (wC (.int 0))) wNext) (wSeq (wIf (wOr (wAnd (wT (w2 gGt (w2 gIx (wVar 1) (wC (.int 1))) (wVar 4))) (wT (w2 gNe (w2 gIx (wVar 0) (wVar 4)) (wC (.str "r"))))) (wAnd (wT (w2 gGt (w2 gIx (wVar 2) (wC (.int 1))) (wVar 4))) (wT (w2 gNe (w2 gIx (wVar 0) (wVar 4)) (wC (.str "l")))))) (wRet (wC (.int 0))) wNext) (wRet (wC (.int 1)))))))
abbrev N_leads_on : List Str := ["shape", "one", "two", "low", "high"]
theorem r_leads_on : ∀ ds Q', ds.length = 3 → W_leads_on ds Q' → t_leads_on { nx := fun _ => Q' .none, rt := Q' } (start0 N_leads_on ds) := by
  rintro _ Q' _ ⟨z, a, b, c, d, rfl, ⟨h1, h2, h3⟩, ⟨h4, h5, h6⟩, h7, q⟩
  simp only [] at h1 h2 h3 h4 h5 h6
  simp [t_leads_on, -gIx, gIx_tuple, str_r, str_l]
  generalize hlow : (if a < c then c else a) = low
  generalize hhigh : (if d < b then d else b) = high
  have e1 : low = c ∧ a < c ∨ low = a ∧ ¬ a < c := by split at hlow <;> omega
  have e2 : high = d ∧ d < b ∨ high = b ∧ ¬ d < b := by split at hhigh <;> omega
  unfold leadsOn at q
  simp only [gt_iff_lt, hlow, hhigh] at q
  clear hlow hhigh
  by_cases x0 : high < low
  · simpa [x0] using q
  have i1 : a < low ∨ c < low → ∀ Q, gIx (.str (encS z)) (.int (low - 1)) Q ↔ Q (.str (encS [chZ z (low - 1)])) := fun h Q => ix_iff (by omega) (by omega) h7 Q
  have i2 : high < b ∨ high < d → ∀ Q, gIx (.str (encS z)) (.int high) Q ↔ Q (.str (encS [chZ z high])) := fun h Q => ix_iff (by omega) (by omega) h7 Q
  generalize chZ z (low - 1) = u at i1 q
  generalize chZ z high = v at i2 q
  clear e1 e2 h1 h2 h3 h4 h5 h6
  by_cases x1 : a < low <;> by_cases x2 : c < low <;> by_cases x3 : high < b <;> by_cases x4 : high < d <;> cases u <;> cases v <;>
    simp [x0, x1, x2, x3, x4, i1, i2, -gIx] at q ⊢ <;> exact q
theorem leadsOn_01 (z : List Bool) (x y : Pr) : leadsOn z x y = 0 ∨ leadsOn z x y = 1 := by
  unfold leadsOn
  simp only []
  (repeat' split) <;> simp
def okT (n : Nat) (t : Tab) : Prop := t.length ≤ 1000 ∧ ∀ r ∈ t, okP n r.1 ∧ okR r
def mapsRow (z : List Bool) (u : Tab) (r : Pr × Int) : List Int := u.map fun s => r.2 * s.2 * leadsOn z r.1 s.1
def mapsBy (z : List Bool) (t u : Tab) : Int := (t.flatMap (mapsRow z u)).sum
def W_maps_by : GC := fun ds Q => ∃ (z : List Bool) (t u : Tab), ds = [.str (encS z), encT t, encT u] ∧ okT z.length t ∧ okT z.length u ∧ z.length ≤ 1000 ∧ Q (.int (mapsBy z t u))
def t_maps_by : Ws := (wRet (wCB gSum (waCons (wLc2 (wiSeq (wVar 1)) [3, 4, 5, 6] (gT [(gN 3), (gN 4)]) wYes (wiSeq (wVar 2)) [5, 6] (gT [(gN 5), (gN 6)]) wYes (w2 gMul (w2 gMul (wVar 4) (wVar 6)) (wCall 3 (W_leads_on) (waCons (wVar 0) (waCons (wVar 3) (waCons (wVar 5) waNil)))))) waNil)))
abbrev N_maps_by : List Str := ["shape", "one", "two", "x", "a", "y", "b"]
theorem r_maps_by : ∀ ds Q', ds.length = 3 → W_maps_by ds Q' → t_maps_by { nx := fun _ => Q' .none, rt := Q' } (start0 N_maps_by ds) := by
  rintro _ Q' _ ⟨z, t, u, rfl, ⟨h1, h2⟩, ⟨h3, h4⟩, h7, q⟩
  simp [t_maps_by, encT]
  refine lc2W_map encR (fun r => (mapsRow z u r).map .int) 1000 t [] (by simp; omega) (fun r _ => by simpa [mapsRow] using h3) (fun r hr acc N hN q2 => ?_) ?_
  · simp
    refine lc2In_map encR (fun s => some (.int (r.2 * s.2 * leadsOn z r.1 s.1))) u acc (by omega) (fun s hs Q2 q3 => ?_) ?_
    · simp [W_leads_on, and_assoc]
      obtain ⟨_, hr2⟩ := h2 r hr
      refine ⟨.inl ⟨?_, ?_⟩, (h2 r hr).1, (h4 s hs).1, h7, .inr ?_, q3⟩
      · have := hr2.1; omega
      · have := hr2.2; omega
      · rcases leadsOn_01 z (r.1.1, r.1.2) (s.1.1, s.1.2) with e | e <;> rw [e] <;> decide
    · rw [List.filterMap_eq_map']
      rw [show u.map (fun s => PyData.int (r.2 * s.2 * leadsOn z r.1 s.1)) = (mapsRow z u r).map .int from by simp [mapsRow]]
      exact q2
  · refine ⟨t.flatMap (mapsRow z u), ?_, q⟩
    rw [List.nil_append, ← List.map_flatMap]
    exact intsD_map _
/-! ### sizes of tables -/
def sizeAt (t : Tab) (k : Int) : Int := (t.filterMap fun r => if r.1.1 ≤ k ∧ k ≤ r.1.2 then some r.2 else none).sum
def sizesBy (z : List Bool) (t : Tab) : List Int := (List.range (z.length + 1)).map fun (k : Nat) => sizeAt t k
def W_sizes_by : GC := fun ds Q => ∃ (z : List Bool) (t : Tab), ds = [.str (encS z), encT t] ∧ z.length ≤ 1000 ∧ t.length ≤ 1000 ∧ Q (encI (sizesBy z t))
def t_sizes_by : Ws := (wRet (wCB gTupOf (waCons (wLc (wiR1 (waCons (w2 gAdd (wCB gLen (waCons (wVar 0) waNil)) (wC (.int 1))) waNil)) [2] (gN 2) wYes (wCB gSum (waCons (wLc (wiSeq (wVar 1)) [3, 4, 5] (gT [(gT [(gN 3), (gN 4)]), (gN 5)]) (wT (wChain gLe gLe (wVar 3) (wVar 2) (wVar 4))) (wVar 5)) waNil))) waNil)))
abbrev N_sizes_by : List Str := ["shape", "table", "k", "i", "j", "many"]
theorem r_sizes_by : ∀ ds Q', ds.length = 2 → W_sizes_by ds Q' → t_sizes_by { nx := fun _ => Q' .none, rt := Q' } (start0 N_sizes_by ds) := by
  rintro _ Q' _ ⟨z, t, rfl, h1, h2, q⟩
  have hz : z.length ≤ sizeLine := le1000 h1
  simp [t_sizes_by, encT, hz, rgD]
  refine ⟨by omega, by omega, ?_⟩
  refine lcW_map (fun k : Nat => .int (k : Int)) (fun k : Nat => .int (sizeAt t k)) _ (fun k hk Q2 q2 => ?_) ?_
  · simp
    refine lcW_opt encR (fun r => if r.1.1 ≤ (k : Int) ∧ (k : Int) ≤ r.1.2 then some (.int r.2) else none) t [] (fun r hr Q3 q3 => ?_) ?_
    · simp
      by_cases x1 : r.1.1 ≤ (k : Int) <;> by_cases x2 : (k : Int) ≤ r.1.2 <;> simp [x1, x2] at q3 ⊢ <;> exact q3
    · refine ⟨t.filterMap fun r : Pr × Int => if r.1.1 ≤ (k : Int) ∧ (k : Int) ≤ r.1.2 then some r.2 else none, ?_, q2⟩
      rw [List.nil_append, ← intsD_map, List.map_filterMap]
      congr 1
      congr 1
      funext r
      split <;> rfl
  · simpa [encI, sizesBy, Function.comp_def] using q
/-! ### euler -/
def dotI (a b : List Int) : Int := ((a.zip b).map fun p => p.1 * p.2).sum
def eulerM (z : List Bool) (a b : List Int) : Int := dotI a b - ((List.range z.length).map fun (k : Nat) => getI a (arrowM z k).1 * getI b (arrowM z k).2).sum
def okI (l : List Int) : Prop := ∀ x ∈ l, -(2 ^ 64) < x ∧ x < 2 ^ 64
def W_euler : GC := fun ds Q => ∃ (z : List Bool) (a b : List Int), ds = [.str (encS z), encI a, encI b] ∧ z.length ≤ 1000 ∧ a.length = z.length + 1 ∧ b.length = z.length + 1 ∧ okI a ∧ Q (.int (eulerM z a b))
def t_euler : Ws := (wSeq (wIf (wOr (wT (w2 gNe (wCB gLen (waCons (wVar 1) waNil)) (w2 gAdd (wCB gLen (waCons (wVar 0) waNil)) (wC (.int 1))))) (wT (w2 gNe (wCB gLen (waCons (wVar 2) waNil)) (wCB gLen (waCons (wVar 1) waNil))))) wNever wNext) (wSeq (wSet 3 (wCB gSum (waCons (wLc (wiZip (waCons (wVar 1) (waCons (wVar 2) waNil))) [7, 8] (gT [(gN 7), (gN 8)]) wYes (w2 gMul (wVar 7) (wVar 8))) waNil))) (wSeq (wFor (wiR1 (waCons (wCB gLen (waCons (wVar 0) waNil)) waNil)) (gN 4) (wSeq (wAsg (wCall 2 (W_arrow) (waCons (wVar 0) (waCons (wVar 4) waNil))) (gT [(gN 5), (gN 6)])) (wAug 3 (gInt (fun _ _ => True) fun i j => .int (i - j)) (w2 gMul (w2 gIx (wVar 1) (wVar 5)) (w2 gIx (wVar 2) (wVar 6)))))) (wRet (wVar 3)))))
abbrev N_euler : List Str := ["shape", "one", "two", "found", "k", "start", "end", "a", "b"]
theorem r_euler : ∀ ds Q', ds.length = 3 → W_euler ds Q' → t_euler { nx := fun _ => Q' .none, rt := Q' } (start0 N_euler ds) := by
  rintro _ Q' _ ⟨z, a, b, rfl, h1, h2, h3, h4, q⟩
  have hz : z.length ≤ sizeLine := le1000 h1
  simp [t_euler, encI, hz, h2, h3, rgD, zipD, -gIx, W_arrow]
  rw [show ((a.map PyData.int).zip (b.map PyData.int)).map (fun p => PyData.tuple [p.1, p.2]) = (a.zip b).map (fun p => PyData.tuple [.int p.1, .int p.2]) from by
    rw [List.zip_map, List.map_map]
    rfl]
  refine lcW_map (fun p : Int × Int => .tuple [.int p.1, .int p.2]) (fun p => .int (p.1 * p.2)) (a.zip b) (fun p hp Q2 q2 => ?_) ?_
  · have := h4 p.1 (List.of_mem_zip (a := p.1) (b := p.2) hp).1
    simp
    exact ⟨.inl this, q2⟩
  · refine ⟨_, intsD_mapf _ _, by omega, ?_⟩
    refine forW_inv (fun k : Nat => .int (k : Int)) (fun r ρ => ∃ f x4 x5 x6, ρ = [some (Sl.fz (.str (encS z))), some (Sl.fz (.tuple (a.map .int))), some (Sl.fz (.tuple (b.map .int))), some (Sl.fz (.int f)), x4, x5, x6, none, none] ∧
      f - (r.map fun (k : Nat) => getI a (arrowM z k).1 * getI b (arrowM z k).2).sum = eulerM z a b) _ _ ⟨_, none, none, none, rfl, rfl⟩ ?_ ?_
    · rintro ρ ⟨f, x4, x5, x6, rfl, e⟩
      simp at e ⊢
      rw [e]
      exact q
    · rintro k r ρ N ⟨p, hp⟩ ⟨f, x4, x5, x6, rfl, e⟩ hN
      have hk : k < z.length := by
        have : k ∈ List.range z.length := by rw [hp]; simp
        exact List.mem_range.mp this
      have g1 : 0 ≤ (arrowM z k).1 ∧ (arrowM z k).1 < a.length := by unfold arrowM; split <;> simp <;> omega
      have g2 : 0 ≤ (arrowM z k).2 ∧ (arrowM z k).2 < b.length := by unfold arrowM; split <;> simp <;> omega
      simp [W_arrow, and_assoc, -gIx, gIx_tuple]
      refine ⟨by omega, h1, .int (getI a (arrowM z k).1), atI_int g1.1 g1.2, .int (getI b (arrowM z k).2), atI_int g2.1 g2.2, ?_⟩
      have hb := h4 (getI a (arrowM z k).1) (by
        unfold getI
        rw [List.getElem?_eq_getElem (show (arrowM z k).1.toNat < a.length by omega)]
        exact List.getElem_mem _)
      simp
      refine ⟨.inl hb, hN _ ⟨_, _, _, _, rfl, ?_⟩⟩
      rw [List.map_cons, List.sum_cons] at e
      omega
def furtherBy (z : List Bool) (t u : Tab) : Int := mapsBy z t u - eulerM z (sizesBy z t) (sizesBy z u)
theorem sizesBy_len (z : List Bool) (t : Tab) : (sizesBy z t).length = z.length + 1 := by simp [sizesBy]
theorem sum_bound {l : List Int} {b : Int} (h : ∀ x ∈ l, -b ≤ x ∧ x ≤ b) : -(l.length * b) ≤ l.sum ∧ l.sum ≤ l.length * b := by
  induction l with
  | nil => simp
  | cons x l ih =>
    have h1 := h x List.mem_cons_self
    have h2 := ih fun y hy => h y (List.mem_cons_of_mem _ hy)
    simp only [List.sum_cons, List.length_cons]
    have : ((l.length + 1 : Nat) : Int) * b = l.length * b + b := by rw [Int.natCast_add, Int.add_mul]; simp
    omega
theorem sizesBy_ok {z : List Bool} {t : Tab} (h : okT z.length t) : okI (sizesBy z t) := by
  intro x hx
  obtain ⟨k, _, rfl⟩ := List.mem_map.mp hx
  have hb : ∀ y ∈ t.filterMap (fun r : Pr × Int => if r.1.1 ≤ (k : Int) ∧ (k : Int) ≤ r.1.2 then some r.2 else none), -(2 ^ 32) ≤ y ∧ y ≤ (2 : Int) ^ 32 := by
    intro y hy
    obtain ⟨r, hr, e⟩ := List.mem_filterMap.mp hy
    split at e
    · cases e
      have := (h.2 r hr).2
      exact ⟨by have := this.1; omega, by have := this.2; omega⟩
    · cases e
  have h1 := sum_bound hb
  have h2 : (t.filterMap (fun r : Pr × Int => if r.1.1 ≤ (k : Int) ∧ (k : Int) ≤ r.1.2 then some r.2 else none)).length ≤ 1000 := Nat.le_trans (List.length_filterMap_le _ _) h.1
  unfold sizeAt
  generalize (t.filterMap (fun r : Pr × Int => if r.1.1 ≤ (k : Int) ∧ (k : Int) ≤ r.1.2 then some r.2 else none)).length = n at h1 h2
  omega
def W_further_by : GC := fun ds Q => ∃ (z : List Bool) (t u : Tab), ds = [.str (encS z), encT t, encT u] ∧ okT z.length t ∧ okT z.length u ∧ z.length ≤ 1000 ∧ Q (.int (furtherBy z t u))
def t_further_by : Ws := (wRet (w2 gSub (wCall 3 (W_maps_by) (waCons (wVar 0) (waCons (wVar 1) (waCons (wVar 2) waNil)))) (wCall 3 (W_euler) (waCons (wVar 0) (waCons (wCall 2 (W_sizes_by) (waCons (wVar 0) (waCons (wVar 1) waNil))) (waCons (wCall 2 (W_sizes_by) (waCons (wVar 0) (waCons (wVar 2) waNil))) waNil))))))
abbrev N_further_by : List Str := ["shape", "one", "two"]
theorem r_further_by : ∀ ds Q', ds.length = 3 → W_further_by ds Q' → t_further_by { nx := fun _ => Q' .none, rt := Q' } (start0 N_further_by ds) := by
  rintro _ Q' _ ⟨z, t, u, rfl, h1, h2, h3, q⟩
  simp [t_further_by, W_maps_by, W_euler, W_sizes_by, and_assoc, sizesBy_len, h1, h2, h3, h1.1, h2.1, sizesBy_ok h1]
  exact q
def W_is_rigid : GC := fun ds Q => ∃ (z : List Bool) (t : Tab), ds = [.str (encS z), encT t] ∧ okT z.length t ∧ z.length ≤ 1000 ∧ Q (.bool (decide (furtherBy z t t = 0)))
def t_is_rigid : Ws := (wRet (w2 gEq (wCall 3 (W_further_by) (waCons (wVar 0) (waCons (wVar 1) (waCons (wVar 1) waNil)))) (wC (.int 0))))
abbrev N_is_rigid : List Str := ["shape", "table"]
theorem r_is_rigid : ∀ ds Q', ds.length = 2 → W_is_rigid ds Q' → t_is_rigid { nx := fun _ => Q' .none, rt := Q' } (start0 N_is_rigid ds) := by
  rintro _ Q' _ ⟨z, t, rfl, h1, h3, q⟩
  simp [t_is_rigid, W_further_by, and_assoc, h1, h3]
  exact q
end DL

namespace DL
open PySem PySem.Spec L2
open PyProof.Rows hiding St

/-! ### what is drawn -/
def W__law_spread : GC := fun ds Q => ∃ i, ds = [.int i] ∧ ∀ r, Q (.int r)
def W__law_draw : GC := fun ds Q => ∃ m : Int, ds = [.int m] ∧ 0 < m ∧ m ≤ 1000000 ∧ ∀ r, 0 ≤ r → r < m → Q (.int r)
def t__law_spread : Ws := (wSeq (wSet 1 (w2 gMod (wCB gIntOf (waCons (wVar 0) waNil)) (wC (.int 2147483647)))) (wSeq (wSet 2 (wC (.int 1))) (wSeq (wFor (wiR1 (waCons (wC (.int 4)) waNil)) (gN 3) (wSeq (wSet 1 (w2 gMod (wCB gIntOf (waCons (w2 gAdd (w2 gAdd (w2 gMul (wVar 1) (wC (.int 48271))) (wC (.int 12345))) (wVar 3)) waNil)) (wC (.int 2147483647)))) (wSet 2 (w2 gAdd (w2 gMul (wVar 2) (wC (.int 2147483647))) (wVar 1))))) (wRet (wVar 2)))))
abbrev N__law_spread : List Str := ["cell", "mixed", "total", "k"]
theorem r__law_spread : ∀ ds Q', ds.length = 1 → W__law_spread ds Q' → t__law_spread { nx := fun _ => Q' .none, rt := Q' } (start0 N__law_spread ds) := by
  rintro _ Q' _ ⟨i, rfl, q⟩
  simp [t__law_spread, rgD]
  refine forW_inv (fun k : Nat => .int (k : Int)) (fun r ρ => ∃ m t x, ρ = [some (Sl.fz (.int i)), some (Sl.fz (.int m)), some (Sl.fz (.int t)), x]) _ _ ⟨_, _, _, rfl⟩ ?_ ?_
  · rintro ρ ⟨m, t, x, rfl⟩
    simp
    exact q _
  · rintro k r ρ N _ ⟨m, t, x, rfl⟩ hN
    simp
    refine ⟨.inr (by decide), .inr (by decide), ?_⟩
    exact hN _ ⟨_, _, _, rfl⟩
def W__law_pick : GC := fun ds Q => ∃ xs : List D, (ds = [.list xs] ∨ ds = [.tuple xs]) ∧ xs ≠ [] ∧ xs.length ≤ 1000000 ∧ ∀ x ∈ xs, Q x
def t__law_pick : Ws := (wRet (w2 gIx (wVar 1) (wCallP 0 2 (W__law_draw) (waCons (wCB gLen (waCons (wVar 1) waNil)) waNil))))
abbrev N__law_pick : List Str := ["pool", "items"]
theorem atI_mem {α : Type} {xs : List α} {r : Int} (h0 : 0 ≤ r) (h1 : r < xs.length) : ∃ d, atI xs r = some d ∧ d ∈ xs := by
  have hk : r.toNat < xs.length := by omega
  exact ⟨xs[r.toNat], by rw [atI_lt h0 h1, List.getElem?_eq_getElem hk], List.getElem_mem _⟩
theorem r__law_pick : ∀ ds Q', ds.length + 1 = 2 → W__law_pick ds Q' → t__law_pick { nx := fun _ => Q' .none, rt := Q' } (startP N__law_pick ds) := by
  rintro _ Q' _ ⟨xs, rfl | rfl, h0, h1, q⟩
  all_goals
    have hp : 0 < xs.length := List.length_pos_iff.mpr h0
    simp [t__law_pick, W__law_draw]
    refine ⟨by omega, by omega, fun r r0 r1 => ?_⟩
    obtain ⟨d, e, m⟩ := atI_mem r0 r1
    exact ⟨d, e, q d m⟩
def W__law_shape : GC := fun ds Q => ∃ m : Int, ds = [.int m] ∧ 0 ≤ m ∧ m ≤ 100 ∧ ∀ z : List Bool, (z.length : Int) ≤ m → Q (.str (encS z))
def t__law_shape : Ws := (wRet (wJoin (wC (.str "")) (wLc (wiR1 (waCons (wCallP 0 2 (W__law_draw) (waCons (w2 gAdd (wVar 1) (wC (.int 1))) waNil)) waNil)) [2] (gN 2) wYes (w2 gIx (wTup (waCons (wC (.str "r")) (waCons (wC (.str "l")) waNil))) (wCallP 0 2 (W__law_draw) (waCons (wC (.int 2)) waNil))))))
abbrev N__law_shape : List Str := ["pool", "most", "k"]
theorem all_ch {ys : List D} (h : ∀ y ∈ ys, ∃ b, y = .str (encS [b])) : ∃ z : List Bool, ys = (z.map fun b => [b]).map fun l => .str (encS l) := by
  induction ys with
  | nil => exact ⟨[], rfl⟩
  | cons y ys ih =>
    obtain ⟨b, rfl⟩ := h y List.mem_cons_self
    obtain ⟨z, rfl⟩ := ih fun x hx => h x (List.mem_cons_of_mem _ hx)
    exact ⟨b :: z, rfl⟩
theorem r__law_shape : ∀ ds Q', ds.length + 1 = 2 → W__law_shape ds Q' → t__law_shape { nx := fun _ => Q' .none, rt := Q' } (startP N__law_shape ds) := by
  rintro _ Q' _ ⟨m, rfl, h0, h1, q⟩
  simp [t__law_shape, W__law_draw, rgD]
  refine ⟨by omega, by omega, fun r r0 r1 => ⟨by omega, by omega, ?_⟩⟩
  refine lcW_some (fun k : Nat => .int (k : Int)) (fun y => ∃ b, y = .str (encS [b])) _ (fun k hk Q2 q2 => ?_) fun ys hl hy => ?_
  · simp [W__law_draw, str_r, str_l]
    intro r r0 r1
    obtain ⟨d, e, m⟩ := atI_mem (xs := [PyData.str (encS [true]), .str (encS [false])]) r0 (by simpa using r1)
    refine ⟨d, e, q2 _ ?_⟩
    simp at m
    rcases m with rfl | rfl
    · exact ⟨_, rfl⟩
    · exact ⟨_, rfl⟩
  · obtain ⟨z, rfl⟩ := all_ch hy
    have hz : z.length = r.toNat := by simpa using hl
    refine ⟨_, strsD_mapf (fun l => encS l) _, ?_, ?_⟩
    · have e : (Str.ofString "").length = 0 := by decide
      rw [e, Nat.mul_zero, Nat.add_zero, List.map_map, List.map_map]
      rw [show (((fun x : Str => x.length) ∘ (fun l => encS l)) ∘ fun b : Bool => [b]) = fun _ => 1 from funext fun b => by simp]
      rw [sum_ones]
      omega
    · have e := join_enc (z.map fun b => [b])
      rw [flat_one, List.map_id'] at e
      rw [e]
      exact q z (by omega)
/-- the stretches of a shape, from the left -/
def stretchesM (n : Nat) : List Pr := (List.range (n + 1)).flatMap fun i => (List.range (n + 1 - i)).map fun d => ((i : Int), ((i + d : Nat) : Int))
theorem stretches_ok {n : Nat} {p : Pr} (h : p ∈ stretchesM n) : okP n p := by
  unfold stretchesM at h
  simp at h
  obtain ⟨i, hi, d, hd, rfl⟩ := h
  unfold okP
  simp
  omega
theorem stretches_len (n : Nat) : (stretchesM n).length ≤ (n + 1) * (n + 1) := by
  unfold stretchesM
  have go : ∀ l : List Nat, (l.flatMap fun i => (List.range (n + 1 - i)).map fun d => ((i : Int), ((i + d : Nat) : Int))).length ≤ l.length * (n + 1) := by
    intro l
    induction l with
    | nil => simp
    | cons x l ih =>
      rw [List.flatMap_cons, List.length_append, List.length_map, List.length_range, List.length_cons, Nat.succ_mul]
      omega
  have := go (List.range (n + 1))
  rw [List.length_range] at this
  exact this
def W__law_stretches : GC := fun ds Q => ∃ z : List Bool, ds = [.str (encS z)] ∧ z.length ≤ 100 ∧ Q (.list ((stretchesM z.length).map encP))
def t__law_stretches : Ws := (wSeq (wOwn 1 (wfLst waNil)) (wSeq (wFor (wiR1 (waCons (w2 gAdd (wCB gLen (waCons (wVar 0) waNil)) (wC (.int 1))) waNil)) (gN 2) (wFor (wiR2 (waCons (wVar 2) (waCons (w2 gAdd (wCB gLen (waCons (wVar 0) waNil)) (wC (.int 1))) waNil))) (gN 3) (wApp 1 (wTup (waCons (wVar 2) (waCons (wVar 3) waNil)))))) (wFrz 1 (wRet (wVar 1)))))
abbrev N__law_stretches : List Str := ["shape", "found", "i", "j"]
theorem r__law_stretches : ∀ ds Q', ds.length = 1 → W__law_stretches ds Q' → t__law_stretches { nx := fun _ => Q' .none, rt := Q' } (start0 N__law_stretches ds) := by
  rintro _ Q' _ ⟨z, rfl, h1, q⟩
  have hz : z.length ≤ sizeLine := le1000 (by omega)
  simp [t__law_stretches, rgD, hz]
  refine ⟨by omega, by omega, ?_⟩
  have hlen : ((stretchesM z.length).map encP).length ≤ 20000 := by
    rw [List.length_map]
    have := stretches_len z.length
    have h2 : (z.length + 1) * (z.length + 1) ≤ 101 * 101 := Nat.mul_le_mul (by omega) (by omega)
    omega
  refine forW_inv (fun k : Nat => .int (k : Int)) (fun r ρ => ∃ acc x y, ρ = [some (Sl.fz (.str (encS z))), some (Sl.ol acc), x, y] ∧
    acc ++ (r.flatMap fun i => (List.range (z.length + 1 - i)).map fun d => encP ((i : Int), ((i + d : Nat) : Int))) = (stretchesM z.length).map encP) _ _ ⟨[], none, none, rfl, ?_⟩ ?_ ?_
  · rw [List.nil_append, stretchesM, List.map_flatMap]
    simp only [List.map_map]
    rfl
  · rintro ρ ⟨acc, x, y, rfl, e⟩
    simp at e ⊢
    rw [e]
    exact q
  · rintro i r ρ N ⟨p, hp⟩ ⟨acc, x, y, rfl, e⟩ hN
    have hi : i < z.length + 1 := by
      have : i ∈ List.range (z.length + 1) := by rw [hp]; simp
      exact List.mem_range.mp this
    simp [hz, rgD]
    repeat refine ⟨by omega, ?_⟩
    refine forW_inv (fun k : Nat => .int ((i : Int) + (k : Int))) (fun r2 ρ => ∃ acc y, ρ = [some (Sl.fz (.str (encS z))), some (Sl.ol acc), some (Sl.fz (.int i)), y] ∧
      acc ++ ((r2.map fun d => encP ((i : Int), ((i + d : Nat) : Int))) ++ (r.flatMap fun i => (List.range (z.length + 1 - i)).map fun d => encP ((i : Int), ((i + d : Nat) : Int)))) = (stretchesM z.length).map encP) _ _ ⟨acc, _, rfl, ?_⟩ ?_ ?_
    · rw [← e, List.flatMap_cons]
    · rintro ρ ⟨acc, y, rfl, e⟩
      exact hN _ ⟨acc, _, _, rfl, by simpa using e⟩
    · rintro d r2 ρ N2 _ ⟨acc, y, rfl, e⟩ hN2
      have hl : acc.length < 1000000 := by
        have := congrArg List.length e
        rw [List.length_append] at this
        omega
      simp [hl]
      exact hN2 _ ⟨_, _, rfl, by rw [← e]; simp⟩
/-- what may be drawn as a table -/
def okLT (n : Nat) (most : Int) (t : Tab) : Prop := t.length ≤ 4 ∧ ∀ r ∈ t, okP n r.1 ∧ 0 < r.2 ∧ r.2 ≤ most
def W__law_table : GC := fun ds Q => ∃ (z : List Bool) (m : Int), ds = [.str (encS z), .int m] ∧ z.length ≤ 100 ∧ 0 ≤ m ∧ m ≤ 1000 ∧ ∀ t : Tab, (t.map (·.1)).Sublist (stretchesM z.length) → okLT z.length m t → Q (encT t)
def t__law_table : Ws := (wSeq (wOwn 3 (wfLst waNil)) (wSeq (wFor (wiSeq (wCall 1 (W__law_stretches) (waCons (wVar 1) waNil))) (gN 4) (wSeq (wSet 5 (w2 gSub (wCallP 0 2 (W__law_draw) (waCons (w2 gAdd (w2 gMul (wC (.int 2)) (wVar 2)) (wC (.int 1))) waNil)) (wVar 2))) (wIf (wT (w2 gGt (wVar 5) (wC (.int 0)))) (wApp 3 (wTup (waCons (wVar 4) (waCons (wVar 5) waNil)))) wNext))) (wRet (wCB gTupOf (waCons (wSl (wVarB 3) woNone (woSome (wC (.int 4)))) waNil)))))
abbrev N__law_table : List Str := ["pool", "shape", "most", "found", "stretch", "many"]
theorem r__law_table : ∀ ds Q', ds.length + 1 = 3 → W__law_table ds Q' → t__law_table { nx := fun _ => Q' .none, rt := Q' } (startP N__law_table ds) := by
  rintro _ Q' _ ⟨z, m, rfl, h1, h2, h3, q⟩
  simp [t__law_table, W__law_stretches, h1]
  have hlen : (stretchesM z.length).length ≤ 20000 := by
    have := stretches_len z.length
    have h2 : (z.length + 1) * (z.length + 1) ≤ 101 * 101 := Nat.mul_le_mul (by omega) (by omega)
    omega
  refine forW_inv encP (fun r ρ => ∃ (t : Tab) (x y : Option Sl), ρ = [some Sl.pl, some (Sl.fz (.str (encS z))), some (Sl.fz (.int m)), some (Sl.ol (t.map encR)), x, y] ∧
    (t.map (·.1) ++ r).Sublist (stretchesM z.length) ∧ ∀ r ∈ t, 0 < r.2 ∧ r.2 ≤ m) _ _ ⟨[], none, none, rfl, by simp, by simp⟩ ?_ ?_
  · rintro ρ ⟨t, x, y, rfl, e1, e2⟩
    rw [List.append_nil] at e1
    simp
    have ht : (t.take 4).Sublist t := List.take_sublist 4 t
    have e3 : ((t.take 4).map (·.1)).Sublist (stretchesM z.length) := (ht.map _).trans e1
    have e4 := q (t.take 4) e3 ⟨by rw [List.length_take]; omega, fun r hr => ⟨stretches_ok (e3.subset (List.mem_map_of_mem hr)), e2 r (ht.subset hr)⟩⟩
    rw [encT, List.map_take] at e4
    rw [show cutD (t.map encR) none (some 4) = (t.map encR).take 4 from by
      unfold cutD HT.sIx
      simp only []
      rw [if_neg (by decide), Nat.sub_zero, List.drop_zero]
      by_cases h : (t.map encR).length ≤ 4
      · rw [List.take_of_length_le (by omega), List.take_of_length_le h]
      · rw [show min (4 : Int).toNat (t.map encR).length = 4 from by simp at h ⊢; omega]]
    exact e4
  · rintro p r ρ N _ ⟨t, x, y, rfl, e1, e2⟩ hN
    simp [W__law_draw, CMul]
    refine ⟨by omega, by omega, fun v v0 v1 => ?_⟩
    by_cases hv : m < v
    · have hl : t.length < 1000000 := by
        have := e1.length_le
        rw [List.length_append, List.length_map] at this
        omega
      simp [hv, hl]
      refine hN _ ⟨t ++ [(p, v - m)], _, _, by simp; exact ⟨rfl, rfl⟩, by simpa using e1, ?_⟩
      intro r hr
      rcases List.mem_append.mp hr with hr | hr
      · exact e2 r hr
      · simp at hr
        subst hr
        simp
        omega
    · simp [hv]
      refine hN _ ⟨t, _, _, rfl, ?_, e2⟩
      refine List.Sublist.trans ?_ e1
      exact (List.Sublist.refl _).append (List.sublist_cons_self p r)
/-! ### what is held against one another -/
mutual
def okS : Nat → D → Bool
  | _, .none => true
  | _, .bool _ => true
  | _, .int _ => true
  | _, .str x => PyData.strOk x
  | n + 1, .list xs => decide (xs.length ≤ 1000) && okSs n xs
  | n + 1, .tuple xs => decide (xs.length ≤ 1000) && okSs n xs
  | _, _ => false
def okSs : Nat → List D → Bool
  | _, [] => true
  | n, x :: xs => okS n x && okSs n xs
end
theorem okSs_mem {n : Nat} {xs : List D} (h : okSs n xs = true) {x : D} (hx : x ∈ xs) : okS n x = true := by
  induction xs with
  | nil => cases hx
  | cons y xs ih =>
    rw [okSs, Bool.and_eq_true] at h
    rcases List.mem_cons.mp hx with rfl | hx
    · exact h.1
    · exact ih h.2 hx
def W_same : Nat → GC
  | 0 => fun _ _ => False
  | n + 1 => fun ds Q => ∃ a, ds = [a, a] ∧ okS n a = true ∧ Q (.bool true)
def t__law_same (n : Nat) : Ws := (wSeq (wIf (wOr (wT (wIsi "tuple" (wVar 1))) (wT (wIsi "list" (wVar 1)))) (wSeq (wIf (wOr (wT (w2 gNe (wIsi "tuple" (wVar 1)) (wIsi "tuple" (wVar 0)))) (wOr (wT (w2 gNe (wIsi "list" (wVar 1)) (wIsi "list" (wVar 0)))) (wT (w2 gNe (wCB gLen (waCons (wVar 0) waNil)) (wCB gLen (waCons (wVar 1) waNil)))))) (wRet (wC (.bool false))) wNext) (wRet (w2 gEq (wCB gLen (waCons (wLc (wiR1 (waCons (wCB gLen (waCons (wVar 1) waNil)) waNil)) [2] (gN 2) (wNot (wT (wCall 2 (W_same n) (waCons (w2 gIx (wVar 0) (wVar 2)) (waCons (w2 gIx (wVar 1) (wVar 2)) waNil))))) (wVar 2)) waNil)) (wC (.int 0))))) wNext) (wSeq (wIf (wT (w2 gIsN (wVar 1) (wC .none))) (wRet (w2 gIsN (wVar 0) (wC .none))) wNext) (wSeq (wIf (wOr (wT (wIsi "bool" (wVar 1))) (wT (wIsi "bool" (wVar 0)))) (wRet (wAndV (wIsi "bool" (wVar 1)) (wAndV (wIsi "bool" (wVar 0)) (w2 gEq (wVar 0) (wVar 1))))) wNext) (wSeq (wIf (wT (wIsi "int" (wVar 1))) (wRet (wAndV (wIsi "int" (wVar 0)) (w2 gEq (wVar 0) (wVar 1)))) wNext) (wRet (wAndV (wIsi "str" (wVar 0)) (w2 gEq (wVar 0) (wVar 1))))))))
abbrev N__law_same : List Str := ["actual", "due", "k"]
theorem r__law_same (n : Nat) : ∀ ds Q', ds.length = 2 → W_same (n + 1) ds Q' → t__law_same n { nx := fun _ => Q' .none, rt := Q' } (start0 N__law_same ds) := by
  rintro _ Q' _ ⟨a, rfl, h1, q⟩
  cases a with
  | none => simpa [t__law_same] using q
  | bool b => simpa [t__law_same] using q
  | int b => simpa [t__law_same] using q
  | str b =>
    simp [okS] at h1
    simpa [t__law_same, PyData.canLay0, h1, PyData.eqv] using q
  | list xs =>
    cases n with
    | zero => simp [okS] at h1
    | succ n =>
      simp [okS] at h1
      simp [t__law_same, rgD]
      repeat refine ⟨by omega, ?_⟩
      refine lcW_opt (fun k : Nat => .int (k : Int)) (fun _ => none) _ [] (fun k hk Q2 q2 => ?_) ?_
      · have hk' : k < xs.length := List.mem_range.mp hk
        simp
        refine ⟨xs[k], by rw [atI_lt (by omega) (by omega)]; simp [hk'], xs[k], by rw [atI_lt (by omega) (by omega)]; simp [hk'], ?_⟩
        simp [W_same]
        exact ⟨okSs_mem h1.2 (List.getElem_mem _), q2⟩
      · simpa using q
  | tuple xs =>
    cases n with
    | zero => simp [okS] at h1
    | succ n =>
      simp [okS] at h1
      simp [t__law_same, rgD]
      repeat refine ⟨by omega, ?_⟩
      refine lcW_opt (fun k : Nat => .int (k : Int)) (fun _ => none) _ [] (fun k hk Q2 q2 => ?_) ?_
      · have hk' : k < xs.length := List.mem_range.mp hk
        simp
        refine ⟨xs[k], by rw [atI_lt (by omega) (by omega)]; simp [hk'], xs[k], by rw [atI_lt (by omega) (by omega)]; simp [hk'], ?_⟩
        simp [W_same]
        exact ⟨okSs_mem h1.2 (List.getElem_mem _), q2⟩
      · simpa using q
  | dict _ => cases n <;> simp [okS] at h1
abbrev W__law_same : GC := W_same 8
end DL

namespace DL
open PySem PySem.Spec L2
open PyProof.Rows hiding St

theorem stretches_len100 {n : Nat} (h : n ≤ 100) : ((stretchesM n).map encP).length ≤ 20000 := by
  rw [List.length_map]
  have := stretches_len n
  have h2 : (n + 1) * (n + 1) ≤ 101 * 101 := Nat.mul_le_mul (by omega) (by omega)
  omega
def W_all_stretches : GC := fun ds Q => ∃ z : List Bool, ds = [.str (encS z)] ∧ z.length ≤ 100 ∧ Q (.list ((stretchesM z.length).map encP))
def t_all_stretches : Ws := (wSeq (wSet 1 (w2 gAdd (wCB gLen (waCons (wVar 0) waNil)) (wC (.int 1)))) (wSeq (wOwn 2 (wfLst waNil)) (wSeq (wFor (wiR1 (waCons (wVar 1) waNil)) (gN 3) (wExt 2 (wfLc (wiR2 (waCons (wVar 3) (waCons (wVar 1) waNil))) [4] (gN 4) wYes (wTup (waCons (wVar 3) (waCons (wVar 4) waNil)))))) (wFrz 2 (wRet (wVar 2))))))
abbrev N_all_stretches : List Str := ["shape", "n", "found", "i", "j"]
theorem r_all_stretches : ∀ ds Q', ds.length = 1 → W_all_stretches ds Q' → t_all_stretches { nx := fun _ => Q' .none, rt := Q' } (start0 N_all_stretches ds) := by
  rintro _ Q' _ ⟨z, rfl, h1, q⟩
  have hz : z.length ≤ sizeLine := le1000 (by omega)
  simp [t_all_stretches, rgD, hz]
  repeat refine ⟨by omega, ?_⟩
  have hlen := stretches_len100 h1
  refine forW_inv (fun k : Nat => .int (k : Int)) (fun r ρ => ∃ acc x y, ρ = [some (Sl.fz (.str (encS z))), some (Sl.fz (.int ((z.length : Int) + 1))), some (Sl.ol acc), x, y] ∧
    acc ++ (r.flatMap fun i => (List.range (z.length + 1 - i)).map fun d => encP ((i : Int), ((i + d : Nat) : Int))) = (stretchesM z.length).map encP) _ _ ⟨[], none, none, rfl, ?_⟩ ?_ ?_
  · rw [List.nil_append, stretchesM, List.map_flatMap]
    simp only [List.map_map]
    rfl
  · rintro ρ ⟨acc, x, y, rfl, e⟩
    simp at e ⊢
    rw [e]
    exact q
  · rintro i r ρ N ⟨p, hp⟩ ⟨acc, x, y, rfl, e⟩ hN
    have hi : i < z.length + 1 := by
      have : i ∈ List.range (z.length + 1) := by rw [hp]; simp
      exact List.mem_range.mp this
    simp [hz, rgD]
    repeat refine ⟨by omega, ?_⟩
    refine lcW_map (fun k : Nat => .int ((i : Int) + (k : Int))) (fun d => encP ((i : Int), ((i + d : Nat) : Int))) _ (fun d hd Q2 q2 => by simpa using q2) ?_
    have e' := e
    rw [List.flatMap_cons, ← List.append_assoc] at e'
    refine ⟨?_, hN _ ⟨_, _, _, rfl, e'⟩⟩
    have := congrArg List.length e'
    simp only [List.length_append] at this hlen ⊢
    omega
end DL

namespace DL
open PySem PySem.Spec L2
open PyProof.Rows hiding St

/-! ### sums -/
def sumI {α : Type} (l : List α) (f : α → Int) : Int := (l.map f).sum
@[simp] theorem sumI_nil {α : Type} (f : α → Int) : sumI [] f = 0 := rfl
@[simp] theorem sumI_cons {α : Type} (x : α) (l : List α) (f : α → Int) : sumI (x :: l) f = f x + sumI l f := by simp [sumI]
theorem sumI_perm {α : Type} {l m : List α} (f : α → Int) (h : l.Perm m) : sumI l f = sumI m f := by
  induction h with
  | nil => rfl
  | cons x _ ih => rw [sumI_cons, sumI_cons, ih]
  | swap x y l => simp only [sumI_cons]; omega
  | trans _ _ h1 h2 => rw [h1, h2]
theorem sumI_congr {α : Type} {l : List α} {f g : α → Int} (h : ∀ x ∈ l, f x = g x) : sumI l f = sumI l g := by
  induction l with
  | nil => rfl
  | cons x l ih => rw [sumI_cons, sumI_cons, h x List.mem_cons_self, ih fun y hy => h y (List.mem_cons_of_mem _ hy)]
theorem sumI_map {α β : Type} (g : α → β) (l : List α) (f : β → Int) : sumI (l.map g) f = sumI l fun x => f (g x) := by simp [sumI, Function.comp_def]
theorem sumI_append {α : Type} (l m : List α) (f : α → Int) : sumI (l ++ m) f = sumI l f + sumI m f := by
  induction l with
  | nil => simp
  | cons x l ih => rw [List.cons_append, sumI_cons, sumI_cons, ih]; omega
theorem sumI_add {α : Type} (l : List α) (f g : α → Int) : sumI l (fun x => f x + g x) = sumI l f + sumI l g := by
  induction l with
  | nil => simp
  | cons x l ih => simp only [sumI_cons, ih]; omega
theorem sumI_sub {α : Type} (l : List α) (f g : α → Int) : sumI l (fun x => f x - g x) = sumI l f - sumI l g := by
  induction l with
  | nil => simp
  | cons x l ih => simp only [sumI_cons, ih]; omega
theorem sumI_mul {α : Type} (l : List α) (c : Int) (f : α → Int) : sumI l (fun x => c * f x) = c * sumI l f := by
  induction l with
  | nil => simp
  | cons x l ih => simp only [sumI_cons, ih, Int.mul_add]
theorem sumI_zero {α : Type} (l : List α) : sumI l (fun _ => 0) = 0 := by
  induction l with
  | nil => rfl
  | cons x l ih => rw [sumI_cons, ih]; rfl
theorem sumI_swap {α β : Type} (l : List α) (m : List β) (f : α → β → Int) : sumI l (fun x => sumI m (f x)) = sumI m fun y => sumI l fun x => f x y := by
  induction l with
  | nil => simp [sumI_zero]
  | cons x l ih => simp only [sumI_cons, ih, sumI_add]

/-! ### forms on tables -/
def bil (f : Pr → Pr → Int) (t u : Tab) : Int := sumI t fun r => sumI u fun s => r.2 * s.2 * f r.1 s.1
theorem bil_perm {f : Pr → Pr → Int} {t t' u u' : Tab} (h1 : t.Perm t') (h2 : u.Perm u') : bil f t u = bil f t' u' := by
  unfold bil
  rw [sumI_perm _ h1]
  exact sumI_congr fun r _ => sumI_perm _ h2
theorem bil_congr {f g : Pr → Pr → Int} {t u : Tab} (h : ∀ r ∈ t, ∀ s ∈ u, f r.1 s.1 = g r.1 s.1) : bil f t u = bil g t u :=
  sumI_congr fun r hr => sumI_congr fun s hs => by rw [h r hr s hs]
theorem bil_sub (f g : Pr → Pr → Int) (t u : Tab) : bil f t u - bil g t u = bil (fun x y => f x y - g x y) t u := by
  unfold bil
  rw [← sumI_sub]
  refine sumI_congr fun r _ => ?_
  rw [← sumI_sub]
  exact sumI_congr fun s _ => by rw [Int.mul_sub]
theorem bil_map {f : Pr → Pr → Int} (g h : Pr → Pr) (t u : Tab) : bil f (t.map fun r => (g r.1, r.2)) (u.map fun s => (h s.1, s.2)) = bil (fun x y => f (g x) (h y)) t u := by
  unfold bil
  rw [sumI_map]
  refine sumI_congr fun r _ => ?_
  rw [sumI_map]
theorem mapsBy_bil (z : List Bool) (t u : Tab) : mapsBy z t u = bil (leadsOn z) t u := by
  unfold mapsBy bil
  induction t with
  | nil => rfl
  | cons r t ih =>
    rw [List.flatMap_cons, List.sum_append, ih, sumI_cons]
    rfl
/-- is the place in the stretch -/
def ind (p : Pr) (v : Int) : Int := if p.1 ≤ v ∧ v ≤ p.2 then 1 else 0
theorem sizeAt_sum (t : Tab) (v : Int) : sizeAt t v = sumI t fun r => r.2 * ind r.1 v := by
  unfold sizeAt
  induction t with
  | nil => rfl
  | cons r t ih =>
    rw [sumI_cons, ← ih]
    unfold ind
    split
    · rename_i h
      rw [List.filterMap_cons_some (b := r.2) (by rw [if_pos h]), List.sum_cons, Int.mul_one]
    · rename_i h
      rw [List.filterMap_cons_none (by rw [if_neg h])]
      simp
theorem sizeAt_perm {t u : Tab} (h : t.Perm u) (v : Int) : sizeAt t v = sizeAt u v := by rw [sizeAt_sum, sizeAt_sum, sumI_perm _ h]
theorem getI_sizes {z : List Bool} {t : Tab} {v : Int} (h0 : 0 ≤ v) (h1 : v ≤ z.length) : getI (sizesBy z t) v = sizeAt t v := by
  unfold getI sizesBy
  rw [List.getElem?_map, List.getElem?_range (by omega)]
  simp
  rw [Int.max_eq_left h0]
/-- euler's form of two rows of sizes, as functions -/
def evE (z : List Bool) (A B : Int → Int) : Int := (sumI (List.range (z.length + 1)) fun (v : Nat) => A v * B v) - sumI (List.range z.length) fun (k : Nat) => A (arrowM z k).1 * B (arrowM z k).2
theorem zip_range_map (n : Nat) (f g : Nat → Int) : (((List.range n).map f).zip ((List.range n).map g)).map (fun p => p.1 * p.2) = (List.range n).map fun v => f v * g v := by
  rw [List.zip_map', List.map_map]
  rfl
theorem arrow_in {z : List Bool} {k : Nat} (h : k < z.length) : (0 ≤ (arrowM z k).1 ∧ (arrowM z k).1 ≤ z.length) ∧ 0 ≤ (arrowM z k).2 ∧ (arrowM z k).2 ≤ z.length := by
  unfold arrowM
  split <;> simp <;> omega
theorem euler_ev (z : List Bool) (t u : Tab) : eulerM z (sizesBy z t) (sizesBy z u) = evE z (sizeAt t) (sizeAt u) := by
  unfold eulerM evE dotI
  rw [show (((sizesBy z t).zip (sizesBy z u)).map fun p => p.1 * p.2) = (List.range (z.length + 1)).map fun (v : Nat) => sizeAt t v * sizeAt u v from zip_range_map _ _ _]
  congr 1
  refine sumI_congr fun k hk => ?_
  have h := arrow_in (List.mem_range.mp hk)
  rw [getI_sizes h.1.1 h.1.2, getI_sizes h.2.1 h.2.2]
theorem evE_left (z : List Bool) (t : Tab) (B : Int → Int) : evE z (sizeAt t) B = sumI t fun r => r.2 * evE z (ind r.1) B := by
  have e : (fun v => sizeAt t v) = fun v => sumI t fun r => r.2 * ind r.1 v := funext fun v => sizeAt_sum t v
  unfold evE
  rw [show (sumI t fun r => r.2 * ((sumI (List.range (z.length + 1)) fun (v : Nat) => ind r.1 v * B v) - sumI (List.range z.length) fun (k : Nat) => ind r.1 (arrowM z k).1 * B (arrowM z k).2)) =
    (sumI t fun r => sumI (List.range (z.length + 1)) fun (v : Nat) => r.2 * (ind r.1 v * B v)) - sumI t fun r => sumI (List.range z.length) fun (k : Nat) => r.2 * (ind r.1 (arrowM z k).1 * B (arrowM z k).2) from by
      rw [← sumI_sub]
      refine sumI_congr fun r _ => ?_
      rw [sumI_mul, sumI_mul, Int.mul_sub]]
  rw [sumI_swap t, sumI_swap t]
  congr 1
  · refine sumI_congr fun v _ => ?_
    rw [sizeAt_sum, Int.mul_comm, ← sumI_mul]
    exact sumI_congr fun r _ => by rw [Int.mul_comm, Int.mul_assoc]
  · refine sumI_congr fun v _ => ?_
    rw [sizeAt_sum, Int.mul_comm, ← sumI_mul]
    exact sumI_congr fun r _ => by rw [Int.mul_comm, Int.mul_assoc]
theorem evE_right (z : List Bool) (t : Tab) (A : Int → Int) : evE z A (sizeAt t) = sumI t fun r => r.2 * evE z A (ind r.1) := by
  unfold evE
  rw [show (sumI t fun r => r.2 * ((sumI (List.range (z.length + 1)) fun (v : Nat) => A v * ind r.1 v) - sumI (List.range z.length) fun (k : Nat) => A (arrowM z k).1 * ind r.1 (arrowM z k).2)) =
    (sumI t fun r => sumI (List.range (z.length + 1)) fun (v : Nat) => r.2 * (A v * ind r.1 v)) - sumI t fun r => sumI (List.range z.length) fun (k : Nat) => r.2 * (A (arrowM z k).1 * ind r.1 (arrowM z k).2) from by
      rw [← sumI_sub]
      refine sumI_congr fun r _ => ?_
      rw [sumI_mul, sumI_mul, Int.mul_sub]]
  rw [sumI_swap t, sumI_swap t]
  congr 1
  · refine sumI_congr fun v _ => ?_
    rw [sizeAt_sum, ← sumI_mul]
    exact sumI_congr fun r _ => by rw [← Int.mul_assoc, ← Int.mul_assoc, Int.mul_comm (A v)]
  · refine sumI_congr fun v _ => ?_
    rw [sizeAt_sum, ← sumI_mul]
    exact sumI_congr fun r _ => by rw [← Int.mul_assoc, ← Int.mul_assoc, Int.mul_comm (A _)]
def euE (z : List Bool) (x y : Pr) : Int := evE z (ind x) (ind y)
theorem euler_bil (z : List Bool) (t u : Tab) : eulerM z (sizesBy z t) (sizesBy z u) = bil (euE z) t u := by
  rw [euler_ev, evE_left]
  refine sumI_congr fun r _ => ?_
  rw [evE_right, ← sumI_mul]
  exact sumI_congr fun s _ => by rw [Int.mul_assoc]; rfl
theorem further_bil (z : List Bool) (t u : Tab) : furtherBy z t u = bil (fun x y => leadsOn z x y - euE z x y) t u := by
  unfold furtherBy
  rw [mapsBy_bil, euler_bil, bil_sub]
end DL

namespace DL
open PySem PySem.Spec L2
open PyProof.Rows hiding St

/-! ### a turning, on stretches -/
def turnQ (k : Int) (p : Pr) : Pr := (turnP k p).getD p
def rowT (k : Int) (t : Tab) : Tab := t.map fun r => (turnQ k r.1, r.2)
theorem turnP_some {k : Int} {p : Pr} (h : p ≠ (k, k)) : turnP k p = some (turnQ k p) := by
  have h' : ¬ (p.1 = k ∧ p.2 = k) := fun e => h (Prod.ext e.1 e.2)
  unfold turnQ turnP
  rw [if_neg h']
  (repeat' split) <;> rfl
theorem turnT_perm {k : Int} {t : Tab} (h : ∀ r ∈ t, r.1 ≠ (k, k)) : (turnT k t).Perm (rowT k t) := by
  refine (sortT_perm _).trans ?_
  rw [show (t.filterMap fun r => (turnP k r.1).map (·, r.2)) = rowT k t from ?_]
  unfold rowT
  induction t with
  | nil => rfl
  | cons r t ih =>
    rw [List.filterMap_cons_some (b := (turnQ k r.1, r.2)) (by rw [turnP_some (h r List.mem_cons_self)]; rfl), List.map_cons, ih fun s hs => h s (List.mem_cons_of_mem _ hs)]
theorem turnedM_len (z : List Bool) (k : Int) : (turnedM z k).length = z.length := by simp [turnedM]
theorem turnQ_ok {n : Nat} {k : Int} {p : Pr} (hk : 0 ≤ k ∧ k ≤ n) (h : okP n p) (hp : p ≠ (k, k)) : okP n (turnQ k p) := by
  have h' : ¬ (p.1 = k ∧ p.2 = k) := fun e => hp (Prod.ext e.1 e.2)
  obtain ⟨a, b⟩ := p
  unfold turnQ turnP okP at *
  simp only [] at *
  rw [if_neg h']
  (repeat' split) <;> simp <;> omega
theorem turnT_ok {n : Nat} {k : Int} {t : Tab} (hk : 0 ≤ k ∧ k ≤ n) (h : okT n t) (hp : ∀ r ∈ t, r.1 ≠ (k, k)) : okT n (turnT k t) := by
  have e := turnT_perm hp
  refine ⟨by rw [e.length_eq]; simpa [rowT] using h.1, fun r hr => ?_⟩
  have hr2 := e.mem_iff.mp hr
  obtain ⟨s, hs, rfl⟩ := List.mem_map.mp hr2
  exact ⟨turnQ_ok hk (h.2 s hs).1 (hp s hs), (h.2 s hs).2⟩
theorem ind_turn {n : Nat} {k v : Int} {p : Pr} (hk : 0 ≤ k ∧ k ≤ n) (h : okP n p) (hp : p ≠ (k, k)) (hv : 0 ≤ v ∧ v ≤ n) :
    ind (turnQ k p) v = if v = k then (if 0 ≤ k - 1 then ind p (k - 1) else 0) + (if k + 1 ≤ n then ind p (k + 1) else 0) - ind p k else ind p v := by
  have h' : ¬ (p.1 = k ∧ p.2 = k) := fun e => hp (Prod.ext e.1 e.2)
  obtain ⟨a, b⟩ := p
  unfold turnQ turnP okP ind at *
  simp only [] at *
  rw [if_neg h']
  (repeat' split) <;> simp_all <;> omega
theorem sizeAt_turn {n : Nat} {k v : Int} {t : Tab} (hk : 0 ≤ k ∧ k ≤ n) (h : okT n t) (hp : ∀ r ∈ t, r.1 ≠ (k, k)) (hv : 0 ≤ v ∧ v ≤ n) :
    sizeAt (turnT k t) v = if v = k then (if 0 ≤ k - 1 then sizeAt t (k - 1) else 0) + (if k + 1 ≤ n then sizeAt t (k + 1) else 0) - sizeAt t k else sizeAt t v := by
  rw [sizeAt_perm (turnT_perm hp), sizeAt_sum, rowT, sumI_map]
  rw [sumI_congr fun r hr => by rw [ind_turn hk (h.2 r hr).1 (hp r hr) hv]]
  by_cases e : v = k
  · simp only [if_pos e]
    rw [sizeAt_sum t k, sizeAt_sum t (k - 1), sizeAt_sum t (k + 1)]
    by_cases e1 : 0 ≤ k - 1 <;> by_cases e2 : k + 1 ≤ n
    · simp only [if_pos e1, if_pos e2]
      rw [← sumI_add, ← sumI_sub]
      exact sumI_congr fun r _ => by rw [Int.mul_sub, Int.mul_add]
    · simp only [if_pos e1, if_neg e2]
      rw [Int.add_zero, ← sumI_sub]
      exact sumI_congr fun r _ => by rw [Int.mul_sub, Int.add_zero]
    · simp only [if_neg e1, if_pos e2]
      rw [Int.zero_add, ← sumI_sub]
      exact sumI_congr fun r _ => by rw [Int.mul_sub, Int.zero_add]
    · simp only [if_neg e1, if_neg e2]
      have e3 : (0 : Int) + 0 - sumI t (fun r => r.2 * ind r.1 k) = sumI t (fun _ => 0) - sumI t (fun r => r.2 * ind r.1 k) := by rw [sumI_zero]; rfl
      rw [e3, ← sumI_sub]
      exact sumI_congr fun r _ => by rw [Int.mul_sub, Int.add_zero, Int.mul_zero]
  · simp only [if_neg e]
    exact (sizeAt_sum t v).symm
theorem around_eq {z : List Bool} {k : Int} {t : Tab} (hk : 0 ≤ k ∧ k ≤ z.length) : aroundM (sizesBy z t) k = (if 0 ≤ k - 1 then sizeAt t (k - 1) else 0) + (if k + 1 ≤ (z.length : Int) then sizeAt t (k + 1) else 0) := by
  unfold aroundM
  rw [sizesBy_len]
  simp only [List.filter_cons, List.filter_nil, decide_eq_true_eq]
  by_cases e1 : 0 ≤ k - 1 <;> by_cases e2 : k + 1 ≤ (z.length : Int)
  · rw [if_pos (by omega), if_pos (by omega), if_pos e1, if_pos e2]
    simp
    rw [getI_sizes (by omega) (by omega), getI_sizes (by omega) (by omega)]
  · rw [if_pos (by omega), if_neg (by omega), if_pos e1, if_neg e2]
    simp
    rw [getI_sizes (by omega) (by omega)]
  · rw [if_neg (by omega), if_pos (by omega), if_neg e1, if_pos e2]
    simp
    rw [getI_sizes (by omega) (by omega)]
  · rw [if_neg (by omega), if_neg (by omega), if_neg e1, if_neg e2]
    rfl
/-- F3 -/
theorem sizes_turn {z z' : List Bool} {k : Int} {t : Tab} (hz : z'.length = z.length) (hk : 0 ≤ k ∧ k ≤ z.length) (h : okT z.length t) (hp : ∀ r ∈ t, r.1 ≠ (k, k)) : sizesBy z' (turnT k t) = sizesTurned (sizesBy z t) k := by
  have hl : (sizesBy z t).length = z.length + 1 := sizesBy_len z t
  refine List.ext_getElem? fun v => ?_
  unfold sizesTurned
  have e1 : ((sizesBy z t).take k.toNat).length = k.toNat := by rw [List.length_take, hl]; omega
  by_cases hv : v < z.length + 1
  · have l : (sizesBy z' (turnT k t))[v]? = some (sizeAt (turnT k t) v) := by
      unfold sizesBy
      rw [List.getElem?_map, List.getElem?_range (by omega)]
      rfl
    rw [l, sizeAt_turn hk h hp ⟨by omega, by omega⟩]
    have l2 : ∀ v : Nat, v < z.length + 1 → (sizesBy z t)[v]? = some (sizeAt t v) := fun v hv => by
      unfold sizesBy
      rw [List.getElem?_map, List.getElem?_range (by omega)]
      rfl
    by_cases hvk : v < k.toNat
    · rw [if_neg (by omega), List.append_assoc, List.getElem?_append_left (by omega), List.getElem?_take_of_lt hvk, l2 v hv]
    · by_cases hve : v = k.toNat
      · rw [if_pos (by omega), List.append_assoc, List.getElem?_append_right (by omega), e1, hve, Nat.sub_self]
        rw [around_eq hk, getI_sizes hk.1 hk.2]
        rfl
      · rw [if_neg (by omega), List.getElem?_append_right (by simp [e1]; omega), List.length_append, e1, List.getElem?_drop]
        rw [show k.toNat + 1 + (v - (k.toNat + [aroundM (sizesBy z t) k - getI (sizesBy z t) k].length)) = v by simp; omega, l2 v hv]
  · rw [List.getElem?_eq_none (by rw [sizesBy_len]; omega), List.getElem?_eq_none]
    simp [hl]
    omega

/-! ### the finite part -/
def lists (n : Nat) : List (List Bool) := match n with
  | 0 => [[]]
  | n + 1 => (lists n).flatMap fun l => [true :: l, false :: l]
theorem mem_lists : ∀ (z : List Bool), z ∈ lists z.length
  | [] => List.mem_singleton.mpr rfl
  | b :: z => by
    show b :: z ∈ (lists z.length).flatMap fun l => [true :: l, false :: l]
    refine List.mem_flatMap.mpr ⟨z, mem_lists z, ?_⟩
    cases b <;> simp
def places (z : List Bool) : List Int := ((List.range (z.length + 1)).map fun (k : Nat) => (k : Int)).filter fun k => isIn z k || isOut z k
end DL

namespace DL
open PySem PySem.Spec L2
open PyProof.Rows hiding St

def exZ (z : List Bool) (x y : Pr) : Int := leadsOn z x y - euE z x y
def noBad (z : List Bool) (row : List Pr) (x : Pr) : Bool := row.all fun y => decide (exZ z x y + exZ z y x ≤ 0)
def setStep (z : List Bool) (sets : List (List Pr)) (x : Pr) : List (List Pr) := sets ++ (sets.filter fun row => decide (row.length < z.length + 1) && noBad z row x).map (· ++ [x])
def setsM (z : List Bool) : List (List Pr) := (stretchesM z.length).foldl (setStep z) [[]]
def heldM (n : Nat) (row : List Pr) : List Int := ((List.range (n + 1)).map fun (k : Nat) => (k : Int)).filter fun k => row.any fun x => decide (x.1 ≤ k) && decide (k ≤ x.2)
def noLead (z : List Bool) (line : List Pr) (x : Pr) : Bool := line.all fun y => decide (leadsOn z x y + exZ z x y ≤ 0)
def lineStep (z : List Bool) (lines : List (List Pr)) : List (List Pr) := lines.flatMap fun line => ((stretchesM z.length).filter fun x => noLead z line x).map fun x => line ++ [x]
def linesM (z : List Bool) : Nat → List (List Pr)
  | 0 => [[]]
  | k + 1 => lineStep z (linesM z k)
def catL : List Int := [1, 1, 2, 5, 14, 42]
def fullM (z : List Bool) : Int := sumI (setsM z) fun row => if row.length = (heldM z.length row).length then 1 else 0
def chk34 (z : List Bool) : Bool :=
  ((setsM z).all fun row => decide (row.length ≤ (heldM z.length row).length) && row.all fun x => row.all fun y => decide (exZ z x y = 0)) &&
  decide (fullM z = getI catL (z.length + 2)) && decide (((linesM z (z.length + 1)).length : Int) = ((z.length : Int) + 2) ^ z.length) &&
  (stretchesM z.length).all fun x => (stretchesM z.length).all fun y => decide (-100 ≤ exZ z x y) && decide (exZ z x y ≤ 100)
set_option maxHeartbeats 40000000 in
theorem chk34_all : ((lists 0 ++ lists 1 ++ lists 2 ++ lists 3).all chk34) = true := by decide +kernel
end DL

namespace DL
open PySem PySem.Spec L2
open PyProof.Rows hiding St
def t_law_21 : Ws := (wRet (wAndV (w2 gEq (wCB gLen (waCons (wVar 14) waNil)) (wVar 17)) (wAndV (wCall 2 (W_is_rigid) (waCons (wVar 2) (waCons (wVar 18) waNil))) (w2 gEq (wCall 2 (W_is_rigid) (waCons (wVar 2) (waCons (wVar 19) waNil))) (w2 gEq (wVar 20) (wC (.int 0)))))))
def t_law_20 : Ws := (wSeq (wFor (wiSeq (wVar 19)) (gT [(gN 6), (gN 21)]) (wSet 20 (w2 gAdd (wVar 20) (wCB gSum (waCons (wLc (wiSeq (wVar 19)) [7, 23] (gT [(gN 7), (gN 23)]) wYes (w2 gMul (w2 gMul (wVar 21) (wVar 23)) (w2 gDget (wVarB 5) (wTup (waCons (wVar 6) (waCons (wVar 7) waNil)))))) waNil))))) t_law_21)
def t_law_19 : Ws := (wSeq (wSet 20 (wC (.int 0))) t_law_20)
def t_law_18 : Ws := (wSeq (wSet 19 (wCallP 1 3 (W__law_table) (waCons (wVar 2) (waCons (wC (.int 1)) waNil)))) t_law_19)
def t_law_17 : Ws := (wSeq (wSet 18 (wCB gTupOf (waCons (wLc (wiSeq (wCB gSortedT (waCons (wVar 10) waNil))) [6] (gN 6) wYes (wTup (waCons (wVar 6) (waCons (w2 gAdd (wC (.int 1)) (wCallP 1 2 (W__law_draw) (waCons (wC (.int 2)) waNil))) waNil)))) waNil))) t_law_18)
def t_law_16 : Ws := (wSeq (wSet 10 (wCallP 1 2 (W__law_pick) (waCons (wVar 8) waNil))) t_law_17)
def t_law_15 : Ws := (wSeq (wFor (wiR1 (waCons (w2 gSub (wVar 3) (wC (.int 1))) waNil)) (gN 13) (wSet 17 (w2 gMul (wVar 17) (w2 gAdd (wVar 3) (wC (.int 1)))))) t_law_16)
def t_law_14 : Ws := (wSeq (wSet 17 (wC (.int 1))) t_law_15)
def t_law_13 : Ws := (wSeq (wFor (wiR1 (waCons (wVar 3) waNil)) (gN 13) (wSeq (wOwn 15 (wfLst waNil)) (wSeq (wFor (wiSeq (wVar 14)) (gN 16) (wFor (wiSeq (wVar 4)) (gN 6) (wIf (wT (w2 gEq (wCB gLen (waCons (wLc (wiSeq (wVar 16)) [7] (gN 7) (wT (w2 gGt (w2 gAdd (wCall 3 (W_leads_on) (waCons (wVar 2) (waCons (wVar 6) (waCons (wVar 7) waNil)))) (w2 gDget (wVarB 5) (wTup (waCons (wVar 6) (waCons (wVar 7) waNil))))) (wC (.int 0)))) (wVar 7)) waNil)) (wC (.int 0)))) (wApp 15 (w2 gAdd (wVar 16) (wTup (waCons (wVar 6) waNil)))) wNext))) (wFrz 15 (wSet 14 (wVar 15)))))) t_law_14)
def t_law_12 : Ws := (wSeq (wSet 14 (wLst (waCons (wTup waNil) waNil))) t_law_13)
def t_law_11 : Ws := (wSeq (wIf (wT (w2 gNe (wVar 9) (w2 gIx (wVarB 12) (w2 gAdd (wVar 3) (wC (.int 1)))))) (wRet (wC (.bool false))) wNext) t_law_12)
def t_law_10 : Ws := (wSeq (wFor (wiR1 (waCons (w2 gAdd (wVar 3) (wC (.int 1))) waNil)) (gN 13) (wApp 12 (wCB gSum (waCons (wLc (wiR1 (waCons (w2 gAdd (wVar 13) (wC (.int 1))) waNil)) [22] (gN 22) wYes (w2 gMul (w2 gIx (wVarB 12) (wVar 22)) (w2 gIx (wVarB 12) (w2 gSub (wVar 13) (wVar 22))))) waNil)))) t_law_11)
def t_law_9 : Ws := (wSeq (wOwn 12 (wfLst (waCons (wC (.int 1)) waNil))) t_law_10)
def t_law_8 : Ws := (wSeq (wFor (wiSeq (wVar 8)) (gN 10) (wSeq (wSet 11 (wSortedSet (wLc (wiR1 (waCons (wVar 3) waNil)) [13] (gN 13) (wT (w2 gGt (wCB gLen (waCons (wLc (wiSeq (wVar 10)) [6] (gN 6) (wAnd (wT (w2 gLe (w2 gIx (wVar 6) (wC (.int 0))) (wVar 13))) (wT (w2 gLe (wVar 13) (w2 gIx (wVar 6) (wC (.int 1)))))) (wVar 6)) waNil)) (wC (.int 0)))) (wVar 13)))) (wSeq (wIf (wT (w2 gGt (wCB gLen (waCons (wVar 10) waNil)) (wCB gLen (waCons (wVar 11) waNil)))) (wRet (wC (.bool false))) wNext) (wSet 9 (w2 gAdd (wVar 9) (wIfE (wT (w2 gEq (wCB gLen (waCons (wVar 10) waNil)) (wCB gLen (waCons (wVar 11) waNil)))) (wC (.int 1)) (wC (.int 0)))))))) t_law_9)
def t_law_7 : Ws := (wSeq (wSet 9 (wC (.int 0))) t_law_8)
def t_law_6 : Ws := (wSeq (wFor (wiSeq (wVar 4)) (gN 6) (wSet 8 (w2 gAdd (wVar 8) (wLc (wiSeq (wVar 8)) [10] (gN 10) (wAnd (wT (w2 gLt (wCB gLen (waCons (wVar 10) waNil)) (wVar 3))) (wT (w2 gEq (wCB gLen (waCons (wLc (wiSeq (wVar 10)) [7] (gN 7) (wT (w2 gGt (w2 gAdd (w2 gDget (wVarB 5) (wTup (waCons (wVar 6) (waCons (wVar 7) waNil)))) (w2 gDget (wVarB 5) (wTup (waCons (wVar 7) (waCons (wVar 6) waNil))))) (wC (.int 0)))) (wVar 7)) waNil)) (wC (.int 0))))) (w2 gAdd (wVar 10) (wTup (waCons (wVar 6) waNil))))))) t_law_7)
def t_law_5 : Ws := (wSeq (wSet 8 (wLst (waCons (wTup waNil) waNil))) t_law_6)
def t_law_4 : Ws := (wSeq (wFor (wiSeq (wVar 4)) (gN 6) (wFor (wiSeq (wVar 4)) (gN 7) (wDset 5 (wTup (waCons (wVar 6) (waCons (wVar 7) waNil))) (wCall 3 (W_further_by) (waCons (wVar 2) (waCons (wTup (waCons (wTup (waCons (wVar 6) (waCons (wC (.int 1)) waNil))) waNil)) (waCons (wTup (waCons (wTup (waCons (wVar 7) (waCons (wC (.int 1)) waNil))) waNil)) waNil))))))) t_law_5)
def t_law_3 : Ws := (wSeq (wOwnD 5 wdNew) t_law_4)
def t_law_2 : Ws := (wSeq (wSet 4 (wCall 1 (W_all_stretches) (waCons (wVar 2) waNil))) t_law_3)
def t_law_1 : Ws := (wSeq (wSet 3 (w2 gAdd (wCB gLen (waCons (wVar 2) waNil)) (wC (.int 1)))) t_law_2)
def t_law : Ws := (wSeq (wSet 2 (wCallP 1 2 (W__law_shape) (waCons (wC (.int 3)) waNil))) t_law_1)
abbrev rho_law : Rho := none :: some .pl :: List.replicate 22 none
/- [(0, 'script'), (1, 'pool'), (2, 'shape'), (3, 'n'), (4, 'every'), (5, 'pairs'), (6, 'x'), (7, 'y'), (8, 'sets'), (9, 'full'), (10, 'row'), (11, 'held'), (12, 'catalan'), (13, 'k'), (14, 'lines'), (15, 'longer'), (16, 'line'), (17, 'due'), (18, 'table'), (19, 'wild'), (20, 'rest'), (21, 'a'), (22, 'j'), (23, 'b')] -/
abbrev EL : WE := { nx := fun _ => False, rt := fun d => d = .bool true }
/-! ### dicts by what stands in them -/
theorem dlook_dset {kvs : List (D × D)} {k d k' : D} : dlook (dset kvs k d) k' = if k' = k then some d else dlook kvs k' := by
  unfold dset
  split
  · rename_i hm
    induction kvs with
    | nil => simp at hm
    | cons p kvs ih =>
      unfold dlook at ih ⊢
      rw [List.map_cons, List.find?_cons]
      by_cases e : p.1 = k
      · simp only [e, if_true]
        by_cases e2 : k = k'
        · subst e2; simp
        · simp only [e2, decide_false]
          rw [if_neg (fun q => e2 q.symm), List.find?_cons]
          simp only [e, e2, decide_false]
          by_cases hm2 : k ∈ kvs.map (·.1)
          · have := ih hm2
            rw [if_neg (fun q => e2 q.symm)] at this
            exact this
          · rw [show kvs.map (fun p => if p.1 = k then (p.1, d) else p) = kvs from ?_]
            refine (List.map_congr_left fun q hq => ?_).trans (List.map_id _)
            rw [if_neg (fun e3 => hm2 (by rw [← e3]; exact List.mem_map_of_mem hq))]
            rfl
      · simp only [e, if_false]
        have hm2 : k ∈ kvs.map (·.1) := by
          rw [List.map_cons] at hm
          rcases List.mem_cons.mp hm with h | h
          · exact (e h.symm).elim
          · exact h
        rw [List.find?_cons]
        by_cases e2 : p.1 = k'
        · simp only [e2, decide_true, Option.map_some]
          rw [if_neg (fun q => e (e2.trans q))]
        · simp only [e2, decide_false]
          exact ih hm2
  · rename_i hm
    unfold dlook
    rw [List.find?_append]
    by_cases e2 : k' = k
    · subst e2
      rw [List.find?_eq_none.mpr fun x hx => by
        intro q
        exact hm (by rw [← of_decide_eq_true q]; exact List.mem_map_of_mem hx)]
      simp
    · rw [if_neg e2]
      cases h : kvs.find? fun p => decide (p.1 = k') with
      | none =>
        have e3 : ¬ k = k' := fun q => e2 q.symm
        simp [e3]
      | some p => simp
theorem dset_len (kvs : List (D × D)) (k d : D) : (dset kvs k d).length ≤ kvs.length + 1 := by
  unfold dset
  split
  · simp
  · simp
abbrev prK (x y : Pr) : D := .tuple [encP x, encP y]
def Pairs (z : List Bool) (kvs : List (D × D)) : Prop := ∀ x ∈ stretchesM z.length, ∀ y ∈ stretchesM z.length, dlook kvs (prK x y) = some (.int (exZ z x y))
theorem prK_inj {x y x' y' : Pr} (h : prK x y = prK x' y') : x = x' ∧ y = y' := by
  obtain ⟨a, b⟩ := x
  obtain ⟨c, d⟩ := y
  obtain ⟨a', b'⟩ := x'
  obtain ⟨c', d'⟩ := y'
  simpa [and_assoc] using h
theorem further_one (z : List Bool) (x y : Pr) : furtherBy z [(x, 1)] [(y, 1)] = exZ z x y := by
  rw [further_bil]
  simp [bil, exZ]
theorem okT_one {n : Nat} {x : Pr} (h : okP n x) : okT n [(x, 1)] := ⟨by simp, fun r hr => by rw [List.mem_singleton.mp hr]; exact ⟨h, by unfold okR; simp⟩⟩
@[simp] def encW (row : List Pr) : D := .tuple (row.map encP)
abbrev prT (x y : Pr) : D := .tuple [.tuple [.int x.1, .int x.2], .tuple [.int y.1, .int y.2]]
theorem Pairs.at {z : List Bool} {kvs : List (D × D)} (h : Pairs z kvs) {x y : Pr} (hx : x ∈ stretchesM z.length) (hy : y ∈ stretchesM z.length) : dlook kvs (prT x y) = some (.int (exZ z x y)) := h x hx y hy
theorem noBad_iff {z : List Bool} {row : List Pr} {x : Pr} : noBad z row x = decide ((row.filter fun y => decide (0 < exZ z x y + exZ z y x)) = []) := by
  unfold noBad
  rw [Bool.eq_iff_iff, decide_eq_true_eq, List.filter_eq_nil_iff, List.all_eq_true]
  refine ⟨fun h y hy => ?_, fun h y hy => ?_⟩
  · have := of_decide_eq_true (h y hy)
    simp
    omega
  · have := h y hy
    simp at this ⊢
    omega
theorem chk34_row {z : List Bool} (hc : chk34 z = true) : ∀ row ∈ setsM z, row.length ≤ (heldM z.length row).length ∧ ∀ x ∈ row, ∀ y ∈ row, exZ z x y = 0 := fun row hr => by
  unfold chk34 at hc
  simp only [Bool.and_eq_true, List.all_eq_true, decide_eq_true_eq] at hc
  exact hc.1.1.1 row hr
theorem catL_get : ∀ k : Nat, k ≤ 4 → sumI (List.range (k + 1)) (fun (j : Nat) => getI (catL.take (k + 1)) j * getI (catL.take (k + 1)) ((k : Int) - j)) = getI catL (k + 1) := by decide +kernel
theorem catL_small : ∀ k : Nat, k ≤ 5 → ∀ j : Nat, j ≤ 5 → 0 ≤ getI (catL.take (k + 1)) j ∧ getI (catL.take (k + 1)) j ≤ 42 := by decide +kernel
theorem catL_take : ∀ k : Nat, k ≤ 4 → catL.take (k + 1) ++ [getI catL (k + 1)] = catL.take (k + 2) := by decide +kernel
theorem catL_last : ∀ k : Nat, k ≤ 3 → getI (catL.take (k + 3)) (k + 2) = getI catL (k + 2) := by decide +kernel
theorem catL_len : ∀ k : Nat, k ≤ 5 → (catL.take (k + 1)).length = k + 1 := by decide +kernel
theorem noLead_iff {z : List Bool} {row : List Pr} {x : Pr} : noLead z row x = decide ((row.filter fun y => decide (0 < leadsOn z x y + exZ z x y)) = []) := by
  unfold noLead
  rw [Bool.eq_iff_iff, decide_eq_true_eq, List.filter_eq_nil_iff, List.all_eq_true]
  refine ⟨fun h y hy => ?_, fun h y hy => ?_⟩
  · have := of_decide_eq_true (h y hy)
    simp
    omega
  · have := h y hy
    simp at this ⊢
    omega
def sortP (l : List Pr) : List Pr := l.mergeSort fun a b => PySem.W.dataLe false id (encP a) (encP b)
theorem sortP_perm (l : List Pr) : (sortP l).Perm l := List.mergeSort_perm _ _
theorem gSortedT_P {l : List Pr} {Q : D → Prop} (q : Q (.list ((sortP l).map encP))) : gSortedT [.tuple (l.map encP)] Q := by
  refine ⟨cl_all fun x hx => ?_, ?_, ?_, fun d hd => ?_, ?_⟩
  · obtain ⟨r, _, rfl⟩ := List.mem_map.mp hx
    simp
  · intro d hd d' hd'
    obtain ⟨r, _, rfl⟩ := List.mem_map.mp hd
    obtain ⟨s, _, rfl⟩ := List.mem_map.mp hd'
    simp [PySem.W.alike, PySem.W.alikeAll]
  · refine .inl fun d hd => ?_
    obtain ⟨r, _, rfl⟩ := List.mem_map.mp hd
    exact ⟨_, _, rfl⟩
  · obtain ⟨r, _, rfl⟩ := List.mem_map.mp hd
    simp
  · have e : sortD (l.map encP) = (sortP l).map encP := by
      unfold sortD sortP
      rw [List.map_mergeSort]
      intro a _ b _
      rfl
    rw [e]
    exact q
theorem lcW_tab {vs : List Nat} {g : Wg} {tt : Wt} {te : Wx} {ρ : Rho} {Q : List D → Prop} (most : Int) (l : List Pr)
    (h : ∀ x ∈ l, ∀ Q' : Option D → Prop, (∀ m : Int, 0 < m → m ≤ most → Q' (some (encR (x, m)))) → g (encP x) (wipeR ρ vs) fun ρ2 => tt ρ2 fun b => if b = true then te ρ2 fun y => Q' (some y) else Q' none)
    (q : ∀ t : Tab, t.map (·.1) = l → (∀ r ∈ t, 0 < r.2 ∧ r.2 ≤ most) → Q (t.map encR)) : lcW vs g tt te ρ (l.map encP) [] Q := by
  have go : ∀ (l : List Pr) (t0 : Tab), (∀ x ∈ l, ∀ Q' : Option D → Prop, (∀ m : Int, 0 < m → m ≤ most → Q' (some (encR (x, m)))) → g (encP x) (wipeR ρ vs) fun ρ2 => tt ρ2 fun b => if b = true then te ρ2 fun y => Q' (some y) else Q' none) →
      (∀ t : Tab, t.map (·.1) = l → (∀ r ∈ t, 0 < r.2 ∧ r.2 ≤ most) → Q ((t0 ++ t).map encR)) → lcW vs g tt te ρ (l.map encP) (t0.map encR) Q := by
    intro l
    induction l with
    | nil => intro t0 _ q; have := q [] rfl (by simp); simpa using this
    | cons x l ih =>
      intro t0 h q
      rw [List.map_cons]
      refine h x List.mem_cons_self (fun o => match o with | some y => lcW vs g tt te ρ (l.map encP) (t0.map encR ++ [y]) Q | none => lcW vs g tt te ρ (l.map encP) (t0.map encR) Q) fun m m0 m1 => ?_
      have := ih (t0 ++ [(x, m)]) (fun z hz => h z (List.mem_cons_of_mem _ hz)) fun t ht hm => by
        have := q ((x, m) :: t) (by simp [ht]) (fun r hr => by
          rcases List.mem_cons.mp hr with rfl | hr
          · exact ⟨m0, m1⟩
          · exact hm r hr)
        simpa using this
      simpa using this
  exact go l [] h (by simpa using q)
theorem okLT_ok {n : Nat} {m : Int} {t : Tab} (hm : m ≤ 1000) (h : okLT n m t) : okT n t :=
  ⟨by have := h.1; omega, fun r hr => by
    have := h.2 r hr
    exact ⟨this.1, by unfold okR; omega⟩⟩
theorem onSeq_T {Q : List D → Prop} {t : Tab} : onSeq Q (encT t) = Q (t.map encR) := rfl
theorem stretches_mem {n : Nat} {x : Pr} (h : okP n x) : x ∈ stretchesM n := by
  obtain ⟨a, b⟩ := x
  obtain ⟨h1, h2, h3⟩ := h
  simp only [] at h1 h2 h3
  unfold stretchesM
  refine List.mem_flatMap.mpr ⟨a.toNat, List.mem_range.mpr (by omega), List.mem_map.mpr ⟨b.toNat - a.toNat, List.mem_range.mpr (by omega), ?_⟩⟩
  refine Prod.ext ?_ ?_ <;> simp <;> omega
theorem exZ_small {z : List Bool} (hc : chk34 z = true) {x y : Pr} (hx : x ∈ stretchesM z.length) (hy : y ∈ stretchesM z.length) : -100 ≤ exZ z x y ∧ exZ z x y ≤ 100 := by
  unfold chk34 at hc
  simp only [Bool.and_eq_true, List.all_eq_true, decide_eq_true_eq] at hc
  exact hc.2 x hx y hy
theorem read_law_14 {z : List Bool} {kvs : List (D × D)} {x6 x7 x9 x10 x11 x12 x13 x15 x16 x22 : Option Sl} (hz : z.length ≤ 3) (hc : chk34 z = true) (hp : Pairs z kvs) (hS : ∀ row ∈ setsM z, ∀ y ∈ row, y ∈ stretchesM z.length) (hn : setsM z ≠ []) (hl : (setsM z).length ≤ 100000) :
    t_law_14 EL [none, some .pl, some (.fz (.str (encS z))), some (.fz (.int ((z.length : Int) + 1))), some (.fz (.list ((stretchesM z.length).map encP))), some (.od kvs), x6, x7, some (.fz (.list ((setsM z).map encW))), x9, x10, x11, x12, x13, some (.fz (.list ((linesM z (z.length + 1)).map encW))), x15, x16, none, none, none, none, none, x22, none] := by
  simp [t_law_14]
  simp [t_law_15, rgD]
  repeat refine ⟨by omega, ?_⟩
  refine forW_inv (fun k : Nat => .int (k : Int)) (fun r ρ => ∃ d x13, ρ = [none, some .pl, some (.fz (.str (encS z))), some (.fz (.int ((z.length : Int) + 1))), some (.fz (.list ((stretchesM z.length).map encP))), some (.od kvs), x6, x7, some (.fz (.list ((setsM z).map encW))), x9, x10, x11, x12, x13, some (.fz (.list ((linesM z (z.length + 1)).map encW))), x15, x16, some (.fz (.int d)), none, none, none, none, x22, none] ∧
    d * ((z.length : Int) + 2) ^ r.length = ((z.length : Int) + 2) ^ z.length) _ _ ⟨1, _, rfl, by simp⟩ ?_ ?_
  · rintro ρ ⟨d, x13, rfl, e1⟩
    simp only [List.length_nil, Int.pow_zero, Int.mul_one] at e1
    subst e1
    simp [t_law_16, W__law_pick, hn]
    refine ⟨by omega, fun row hrow => ?_⟩
    simp [t_law_17, -gSortedT]
    refine gSortedT_P ?_
    simp only [onSeq]
    refine lcW_tab 2 (sortP row) (fun x hx Q2 q2 => ?_) fun t ht1 ht2 => ?_
    · simp [W__law_draw]
      intro r r0 r1
      exact q2 (1 + r) (by omega) (by omega)
    · have pm : (t.map (·.1)).Perm row := by rw [ht1]; exact sortP_perm row
      have tr : ∀ r ∈ t, r.1 ∈ row := fun r hr => pm.mem_iff.mp (List.mem_map_of_mem hr)
      have tl : t.length ≤ 1000 := by
        have h1 := pm.length_eq
        rw [List.length_map] at h1
        have h2 := (chk34_row hc row hrow).1
        have h3 : (heldM z.length row).length ≤ z.length + 1 := by
          unfold heldM
          exact Nat.le_trans (List.length_filter_le _ _) (by simp)
        omega
      have okt : okT z.length t := ⟨tl, fun r hr => ⟨stretches_ok (hS row hrow _ (tr r hr)), by have := ht2 r hr; unfold okR; omega⟩⟩
      have rig : furtherBy z t t = 0 := by
        rw [further_bil]
        unfold bil
        rw [← sumI_zero t]
        refine sumI_congr fun r hr => ?_
        rw [← sumI_zero t]
        refine sumI_congr fun s hs => ?_
        have := (chk34_row hc row hrow).2 r.1 (tr r hr) s.1 (tr s hs)
        unfold exZ at this
        simp only [this, Int.mul_zero]
      simp [t_law_18, W__law_table, and_assoc]
      refine ⟨by omega, fun wi _ hw => ?_⟩
      have okw := okLT_ok (m := 1) (by decide) hw
      simp [t_law_19]
      rw [show PyData.tuple (t.map encR) = encT t from rfl]
      have hlines : ((linesM z (z.length + 1)).length : Int) = ((z.length : Int) + 2) ^ z.length := by
        unfold chk34 at hc
        simp only [Bool.and_eq_true, decide_eq_true_eq] at hc
        exact hc.1.2
      simp [t_law_20, onSeq_T]
      refine forW_inv encR (fun r ρ => ∃ s x6 x7 x21 x23, ρ = [none, some .pl, some (.fz (.str (encS z))), some (.fz (.int ((z.length : Int) + 1))), some (.fz (.list ((stretchesM z.length).map encP))), some (.od kvs), x6, x7, some (.fz (.list ((setsM z).map encW))), x9, some (.fz (encW row)), x11, x12, x13, some (.fz (.list ((linesM z (z.length + 1)).map encW))), x15, x16, some (.fz (.int (((z.length : Int) + 2) ^ z.length))), some (.fz (encT t)), some (.fz (encT wi)), some (.fz (.int s)), x21, x22, x23] ∧
        s + sumI r (fun r => sumI wi fun s => r.2 * s.2 * exZ z r.1 s.1) = furtherBy z wi wi ∧ ∀ x ∈ r, x ∈ wi) _ _ ⟨0, _, _, _, _, rfl, by rw [further_bil]; simp [bil, exZ], fun _ h => h⟩ ?_ ?_
      · rintro ρ ⟨s, x6, x7, x21, x23, rfl, e1, -⟩
        rw [sumI_nil, Int.add_zero] at e1
        subst e1
        have h7 : z.length ≤ 1000 := by omega
        simp [t_law_21, W_is_rigid, and_assoc, okt, okw, h7, rig, hlines]
      · rintro r rs ρ N _ ⟨s, x6, x7, x21, x23, rfl, e1, e2⟩ hN
        have hr := okw.2 r (e2 r List.mem_cons_self)
        simp [onSeq_T]
        refine lcW_map encR (fun s => .int (r.2 * s.2 * exZ z r.1 s.1)) wi (fun s hs Q2 q2 => ?_) ?_
        · have p1 := hp.at (stretches_mem hr.1) (stretches_mem (okw.2 s hs).1)
          have hs2 := (okw.2 s hs).2
          have hr2 := hr.2
          have hb := exZ_small hc (stretches_mem hr.1) (stretches_mem (okw.2 s hs).1)
          simp [isKs, isK, p1]
          unfold okR at hr2 hs2
          exact ⟨.inl ⟨by omega, by omega⟩, .inr ⟨by omega, by omega⟩, q2⟩
        · refine ⟨_, intsD_mapf _ _, hN _ ⟨_, _, _, _, _, rfl, ?_, fun x hx => e2 x (List.mem_cons_of_mem _ hx)⟩⟩
          rw [sumI_cons] at e1
          unfold sumI at e1 ⊢
          omega
  · rintro k r ρ N _ ⟨d, x13, rfl, e1⟩ hN
    simp [CMul]
    refine ⟨.inr ⟨by omega, by omega⟩, hN _ ⟨_, _, rfl, ?_⟩⟩
    rw [List.length_cons, Int.pow_succ] at e1
    rw [← e1, show (z.length : Int) + 1 + 1 = z.length + 2 by omega, Int.mul_assoc, Int.mul_comm ((z.length : Int) + 2)]
theorem read_law_12 {z : List Bool} {kvs : List (D × D)} {x6 x7 x9 x10 x11 x12 x13 x22 : Option Sl} (hz : z.length ≤ 3) (hc : chk34 z = true) (hp : Pairs z kvs) (hS : ∀ row ∈ setsM z, ∀ y ∈ row, y ∈ stretchesM z.length) (hn : setsM z ≠ []) (hl : (setsM z).length ≤ 100000) :
    t_law_12 EL [none, some .pl, some (.fz (.str (encS z))), some (.fz (.int ((z.length : Int) + 1))), some (.fz (.list ((stretchesM z.length).map encP))), some (.od kvs), x6, x7, some (.fz (.list ((setsM z).map encW))), x9, x10, x11, x12, x13, none, none, none, none, none, none, none, none, x22, none] := by
  simp [t_law_12]
  simp [t_law_13, rgD]
  have sl : (stretchesM z.length).length ≤ 16 := by
    have := stretches_len z.length
    have h2 : (z.length + 1) * (z.length + 1) ≤ 4 * 4 := Nat.mul_le_mul (by omega) (by omega)
    omega
  repeat refine ⟨by omega, ?_⟩
  refine forW_inv (fun k : Nat => .int (k : Int)) (fun r ρ => ∃ done x6 x7 x13 x15 x16, ρ = [none, some .pl, some (.fz (.str (encS z))), some (.fz (.int ((z.length : Int) + 1))), some (.fz (.list ((stretchesM z.length).map encP))), some (.od kvs), x6, x7, some (.fz (.list ((setsM z).map encW))), x9, x10, x11, x12, x13, some (.fz (.list ((linesM z done.length).map encW))), x15, x16, none, none, none, none, none, x22, none] ∧
    done ++ r = List.range (z.length + 1) ∧ (linesM z done.length).length ≤ 16 ^ done.length ∧ (∀ line ∈ linesM z done.length, line.length = done.length ∧ ∀ y ∈ line, y ∈ stretchesM z.length)) _ _ ⟨[], _, _, _, none, none, rfl, rfl, by simp [linesM], by simp [linesM]⟩ ?_ ?_
  · rintro ρ ⟨done, x6, x7, x13, x15, x16, rfl, e1, e2, e3⟩
    rw [List.append_nil] at e1
    subst e1
    rw [List.length_range]
    exact read_law_14 hz hc hp hS hn hl
  · rintro k r ρ N _ ⟨done, x6, x7, x13, x15, x16, rfl, e1, e2, e3⟩ hN
    have dl : done.length ≤ 3 := by
      have := congrArg List.length e1
      simp at this
      omega
    have p16 : 16 ^ done.length ≤ 16 ^ 3 := Nat.pow_le_pow_right (by decide) dl
    simp
    refine forW_inv encW (fun r2 ρ => ∃ acc x6 x7 x16, ρ = [none, some .pl, some (.fz (.str (encS z))), some (.fz (.int ((z.length : Int) + 1))), some (.fz (.list ((stretchesM z.length).map encP))), some (.od kvs), x6, x7, some (.fz (.list ((setsM z).map encW))), x9, x10, x11, x12, some (.fz (.int k)), some (.fz (.list ((linesM z done.length).map encW))), some (.ol (acc.map encW)), x16, none, none, none, none, none, x22, none] ∧
      acc ++ r2.flatMap (fun line => ((stretchesM z.length).filter fun x => noLead z line x).map fun x => line ++ [x]) = linesM z (done.length + 1) ∧ acc.length + r2.length * 16 ≤ (linesM z done.length).length * 16 ∧ ∀ line ∈ r2, line ∈ linesM z done.length) _ _ ⟨[], _, _, _, rfl, rfl, by simp, fun _ h => h⟩ ?_ ?_
    · rintro ρ ⟨acc, x6, x7, x16, rfl, f1, f2, -⟩
      rw [List.flatMap_nil, List.append_nil] at f1
      subst f1
      simp
      refine hN _ ⟨done ++ [k], _, _, _, _, _, by simp; (repeat' apply And.intro) <;> rfl, by rw [← e1]; simp, ?_, ?_⟩
      · rw [List.length_append, List.length_singleton, Nat.pow_succ]
        simp at f2
        omega
      · rw [List.length_append, List.length_singleton]
        intro line hline
        obtain ⟨l0, hl0, hx⟩ := List.mem_flatMap.mp hline
        obtain ⟨x, hx2, rfl⟩ := List.mem_map.mp hx
        obtain ⟨g1, g2⟩ := e3 l0 hl0
        refine ⟨by simp [g1], fun y hy => ?_⟩
        rcases List.mem_append.mp hy with hy | hy
        · exact g2 y hy
        · rw [List.mem_singleton.mp hy]; exact (List.mem_filter.mp hx2).1
    · rintro line r2 ρ N2 _ ⟨acc, x6, x7, x16, rfl, f1, f2, f3⟩ hN2
      have hline := e3 line (f3 line List.mem_cons_self)
      simp
      refine forW_inv encP (fun r3 ρ => ∃ d3 acc2 x6 x7, ρ = [none, some .pl, some (.fz (.str (encS z))), some (.fz (.int ((z.length : Int) + 1))), some (.fz (.list ((stretchesM z.length).map encP))), some (.od kvs), x6, x7, some (.fz (.list ((setsM z).map encW))), x9, x10, x11, x12, some (.fz (.int k)), some (.fz (.list ((linesM z done.length).map encW))), some (.ol (acc2.map encW)), some (.fz (encW line)), none, none, none, none, none, x22, none] ∧
        d3 ++ r3 = stretchesM z.length ∧ acc2 = acc ++ (d3.filter fun x => noLead z line x).map (fun x => line ++ [x])) _ _ ⟨[], acc, _, _, rfl, rfl, by simp⟩ ?_ ?_
      · rintro ρ ⟨d3, acc2, x6, x7, rfl, g1, g2⟩
        rw [List.append_nil] at g1
        subst g1
        refine hN2 _ ⟨acc2, _, _, _, rfl, by rw [← f1, g2, List.flatMap_cons, List.append_assoc], ?_, fun l hl => f3 l (List.mem_cons_of_mem _ hl)⟩
        have := List.length_filter_le (fun x => noLead z line x) (stretchesM z.length)
        rw [g2, List.length_append, List.length_map]
        simp at f2
        omega
      · rintro x r3 ρ N3 _ ⟨d3, acc2, x6, x7, rfl, g1, g2⟩ hN3
        have hx : x ∈ stretchesM z.length := by rw [← g1]; simp
        simp
        refine lcW_opt encP (fun y => if decide (0 < leadsOn z x y + exZ z x y) = true then some (encP y) else none) line [] (fun y hy Q3 q3 => ?_) ?_
        · have hy2 := hline.2 y hy
          have p1 := hp.at hx hy2
          have o1 := stretches_ok hx
          have o2 := stretches_ok hy2
          simp [W_leads_on, and_assoc, isKs, isK, p1]
          refine ⟨o1, o2, by omega, ?_⟩
          have e : leadsOn z (x.1, x.2) (y.1, y.2) = leadsOn z x y := rfl
          rw [e]
          by_cases h : 0 < leadsOn z x y + exZ z x y <;> simp [h] at q3 ⊢ <;> exact q3
        · rw [List.nil_append, filterMap_if (fun y => decide (0 < leadsOn z x y + exZ z x y)) encP]
          have hb := noLead_iff (z := z) (row := line) (x := x)
          have al : acc2.length < 1000000 := by
            have h1 := List.length_filter_le (fun x => noLead z line x) d3
            have h2 := congrArg List.length g1
            rw [List.length_append, List.length_cons] at h2
            rw [g2, List.length_append, List.length_map]
            simp only [List.length_cons] at f2
            omega
          by_cases h2 : (line.filter fun y => decide (0 < leadsOn z x y + exZ z x y)) = []
          · rw [h2] at hb ⊢
            rw [if_pos (by rfl)]
            refine ⟨le1000 (by rw [hline.1]; omega), by simpa using al, hN3 _ ⟨d3 ++ [x], acc2 ++ [line ++ [x]], _, _, by simp; (repeat' apply And.intro) <;> rfl, by rw [← g1]; simp, ?_⟩⟩
            rw [g2, List.filter_append, List.filter_cons, hb]
            simp
          · rw [if_neg (fun h => h2 (List.map_eq_nil_iff.mp h))]
            rw [decide_eq_false h2] at hb
            refine hN3 _ ⟨d3 ++ [x], acc2, _, _, by simp; (repeat' apply And.intro) <;> rfl, by rw [← g1]; simp, ?_⟩
            rw [g2, List.filter_append, List.filter_cons, hb]
            simp
theorem read_law_9 {z : List Bool} {kvs : List (D × D)} {x6 x7 x10 x11 x13 : Option Sl} (hz : z.length ≤ 3) (hc : chk34 z = true) (hp : Pairs z kvs) (hS : ∀ row ∈ setsM z, ∀ y ∈ row, y ∈ stretchesM z.length) (hn : setsM z ≠ []) (hl : (setsM z).length ≤ 100000) :
    t_law_9 EL [none, some .pl, some (.fz (.str (encS z))), some (.fz (.int ((z.length : Int) + 1))), some (.fz (.list ((stretchesM z.length).map encP))), some (.od kvs), x6, x7, some (.fz (.list ((setsM z).map encW))), some (.fz (.int (fullM z))), x10, x11, none, x13, none, none, none, none, none, none, none, none, none, none] := by
  have hfull : fullM z = getI catL (z.length + 2) := by
    unfold chk34 at hc
    simp only [Bool.and_eq_true, List.all_eq_true, decide_eq_true_eq] at hc
    exact hc.1.1.2
  simp [t_law_9]
  simp [t_law_10, rgD]
  repeat refine ⟨by omega, ?_⟩
  rw [show ((z.length : Int) + 1 + 1).toNat = z.length + 2 by omega]
  refine forW_inv (fun k : Nat => .int (k : Int)) (fun r ρ => ∃ done x13 x22, ρ = [none, some .pl, some (.fz (.str (encS z))), some (.fz (.int ((z.length : Int) + 1))), some (.fz (.list ((stretchesM z.length).map encP))), some (.od kvs), x6, x7, some (.fz (.list ((setsM z).map encW))), some (.fz (.int (fullM z))), x10, x11, some (.ol ((catL.take (done.length + 1)).map .int)), x13, none, none, none, none, none, none, none, none, x22, none] ∧
    done ++ r = List.range (z.length + 2)) _ _ ⟨[], _, none, rfl, rfl⟩ ?_ ?_
  · rintro ρ ⟨done, x13, x22, rfl, e1⟩
    rw [List.append_nil] at e1
    subst e1
    rw [List.length_range]
    simp [t_law_11, -List.map_take]
    refine ⟨.int (getI catL (z.length + 2)), ?_, rfl, ?_, ?_⟩
    · rw [atI_int (by omega) (by rw [catL_len _ (by omega)]; omega)]
      rw [show (z.length : Int) + 1 + 1 = z.length + 2 by omega, catL_last z.length hz]
    · rw [hfull]; simp
    · exact read_law_12 hz hc hp hS hn hl
  · rintro k r ρ N _ ⟨done, x13, x22, rfl, e1⟩ hN
    have hk : k = done.length := by
      have h1 := congrArg (fun l => l[done.length]?) e1
      simp at h1
      have h2 : done.length < z.length + 2 := by
        have := congrArg List.length e1
        simp at this
        omega
      rw [List.getElem?_range h2] at h1
      simpa using h1
    have hk4 : k ≤ 4 := by
      have := congrArg List.length e1
      simp at this
      omega
    subst hk
    simp [rgD, -List.map_take]
    repeat refine ⟨by omega, ?_⟩
    have cl := catL_len done.length (by omega)
    refine lcW_map (fun j : Nat => .int (j : Int)) (fun j : Nat => .int (getI (catL.take (done.length + 1)) j * getI (catL.take (done.length + 1)) ((done.length : Int) - j))) _ (fun j hj Q2 q2 => ?_) ?_
    · have hj' := List.mem_range.mp hj
      simp [-List.map_take]
      refine ⟨_, atI_int (by omega) (by omega), _, atI_int (k := (done.length : Int) - j) (by omega) (by omega), ?_⟩
      simp
      have c1 := catL_small done.length (by omega) j (by omega)
      exact ⟨.inl ⟨by omega, by omega⟩, q2⟩
    · refine ⟨_, intsD_mapf _ _, by omega, hN _ ⟨done ++ [done.length], some (.fz (.int done.length)), x22, ?_, by rw [← e1]; simp⟩⟩
      have h1 := catL_get done.length hk4
      unfold sumI at h1
      rw [h1]
      rw [List.length_append, List.length_singleton, ← catL_take done.length hk4]
      simp
theorem read_law_7 {z : List Bool} {kvs : List (D × D)} {x6 x7 x10 : Option Sl} (hz : z.length ≤ 3) (hc : chk34 z = true) (hp : Pairs z kvs) (hS : ∀ row ∈ setsM z, ∀ y ∈ row, y ∈ stretchesM z.length) (hn : setsM z ≠ []) (hl : (setsM z).length ≤ 100000) :
    t_law_7 EL [none, some .pl, some (.fz (.str (encS z))), some (.fz (.int ((z.length : Int) + 1))), some (.fz (.list ((stretchesM z.length).map encP))), some (.od kvs), x6, x7, some (.fz (.list ((setsM z).map encW))), none, x10, none, none, none, none, none, none, none, none, none, none, none, none, none] := by
  simp [t_law_7]
  simp [t_law_8]
  refine forW_inv encW (fun r ρ => ∃ f x6 x7 x10 x11 x13, ρ = [none, some .pl, some (.fz (.str (encS z))), some (.fz (.int ((z.length : Int) + 1))), some (.fz (.list ((stretchesM z.length).map encP))), some (.od kvs), x6, x7, some (.fz (.list ((setsM z).map encW))), some (.fz (.int f)), x10, x11, none, x13, none, none, none, none, none, none, none, none, none, none] ∧
    f + sumI r (fun row => if row.length = (heldM z.length row).length then 1 else 0) = fullM z ∧ ∀ row ∈ r, row ∈ setsM z) _ _ ⟨0, _, _, _, none, none, rfl, by rw [Int.zero_add]; rfl, fun _ h => h⟩ ?_ ?_
  · rintro ρ ⟨f, x6, x7, x10, x11, x13, rfl, e1, -⟩
    rw [sumI_nil, Int.add_zero] at e1
    subst e1
    exact read_law_9 hz hc hp hS hn hl
  · rintro row r ρ N _ ⟨f, x6, x7, x10, x11, x13, rfl, e1, e2⟩ hN
    have hrow := e2 row List.mem_cons_self
    have hle := (chk34_row hc row hrow).1
    simp [rgD]
    repeat refine ⟨by omega, ?_⟩
    refine lcW_opt (fun k : Nat => .int (k : Int)) (fun k : Nat => if (row.any fun x => decide (x.1 ≤ (k : Int)) && decide ((k : Int) ≤ x.2)) = true then some (.int k) else none) _ [] (fun k hk Q2 q2 => ?_) ?_
    · simp
      refine lcW_opt encP (fun x => if (decide (x.1 ≤ (k : Int)) && decide ((k : Int) ≤ x.2)) = true then some (encP x) else none) row [] (fun x hx Q3 q3 => ?_) ?_
      · by_cases h1 : x.1 ≤ (k : Int) <;> by_cases h2 : (k : Int) ≤ x.2 <;> simp [h1, h2] at q3 ⊢ <;> exact q3
      · rw [List.nil_append, filterMap_if (fun x : Pr => decide (x.1 ≤ (k : Int)) && decide ((k : Int) ≤ x.2)) encP]
        cases hf : row.filter (fun x : Pr => decide (x.1 ≤ (k : Int)) && decide ((k : Int) ≤ x.2)) with
        | nil =>
          have : (row.any fun x => decide (x.1 ≤ (k : Int)) && decide ((k : Int) ≤ x.2)) = false := by
            rw [List.any_eq_false]
            intro x hx h
            have := List.filter_eq_nil_iff.mp hf x hx
            exact this h
          rw [this] at q2
          simpa using q2
        | cons x l =>
          have : (row.any fun x => decide (x.1 ≤ (k : Int)) && decide ((k : Int) ≤ x.2)) = true := by
            have hx : x ∈ row.filter (fun x : Pr => decide (x.1 ≤ (k : Int)) && decide ((k : Int) ≤ x.2)) := by rw [hf]; simp
            exact List.any_eq_true.mpr ⟨x, (List.mem_filter.mp hx).1, (List.mem_filter.mp hx).2⟩
          rw [this] at q2
          simpa using q2
    · rw [List.nil_append, filterMap_if (fun k : Nat => row.any fun x => decide (x.1 ≤ (k : Int)) && decide ((k : Int) ≤ x.2)) (fun k : Nat => PyData.int k)]
      rw [show ((List.range (z.length + 1)).filter (fun k : Nat => row.any fun x => decide (x.1 ≤ (k : Int)) && decide ((k : Int) ≤ x.2))).map (fun k : Nat => PyData.int k) = (heldM z.length row).map .int from by
        unfold heldM
        rw [List.filter_map, List.map_map]
        rfl]
      have hl2 : (heldM z.length row).length ≤ z.length + 1 := by
        unfold heldM
        exact Nat.le_trans (List.length_filter_le _ _) (by simp)
      refine ⟨_, intsD_map _, by omega, fun m hm1 hm2 => ?_⟩
      have em : m = heldM z.length row := by
        have sp : (heldM z.length row).Pairwise (· < ·) := by
          unfold heldM
          refine List.Pairwise.filter _ ?_
          rw [List.pairwise_map]
          exact List.pairwise_lt_range.imp fun h => by omega
        refine List.Perm.eq_of_pairwise (le := (· < ·)) (fun a b _ _ h1 h2 => by omega) hm1 sp ((List.perm_ext_iff_of_nodup ?_ ?_).mpr hm2)
        · exact hm1.imp fun h => by omega
        · exact sp.imp fun h => by omega
      subst em
      rw [sumI_cons] at e1
      refine ⟨hle, ?_⟩
      by_cases h : row.length = (heldM z.length row).length
      · rw [if_pos h] at e1
        rw [if_pos (by omega)]
        exact hN _ ⟨_, _, _, _, _, _, rfl, by omega, fun r hr => e2 r (List.mem_cons_of_mem _ hr)⟩
      · rw [if_neg h] at e1
        rw [if_neg (by omega)]
        exact hN _ ⟨_, _, _, _, _, _, rfl, by omega, fun r hr => e2 r (List.mem_cons_of_mem _ hr)⟩
theorem read_law_5 {z : List Bool} {kvs : List (D × D)} {x6 x7 : Option Sl} (hz : z.length ≤ 3) (hc : chk34 z = true) (hp : Pairs z kvs) :
    t_law_5 EL [none, some .pl, some (.fz (.str (encS z))), some (.fz (.int ((z.length : Int) + 1))), some (.fz (.list ((stretchesM z.length).map encP))), some (.od kvs), x6, x7, none, none, none, none, none, none, none, none, none, none, none, none, none, none, none, none] := by
  have sl : (stretchesM z.length).length ≤ 16 := by
    have := stretches_len z.length
    have h2 : (z.length + 1) * (z.length + 1) ≤ 4 * 4 := Nat.mul_le_mul (by omega) (by omega)
    omega
  simp [t_law_5]
  simp [t_law_6]
  refine forW_inv encP (fun r ρ => ∃ done sets x6 x7 x10, ρ = [none, some .pl, some (.fz (.str (encS z))), some (.fz (.int ((z.length : Int) + 1))), some (.fz (.list ((stretchesM z.length).map encP))), some (.od kvs), x6, x7, some (.fz (.list (sets.map encW))), none, x10, none, none, none, none, none, none, none, none, none, none, none, none, none] ∧
    done ++ r = stretchesM z.length ∧ r.foldl (setStep z) sets = setsM z ∧ sets.length ≤ 2 ^ done.length ∧ (∀ row ∈ sets, ∀ y ∈ row, y ∈ stretchesM z.length) ∧ sets ≠ [] ∧ ∀ row ∈ sets, row.length ≤ 4) _ _ ⟨[], [[]], x6, x7, none, rfl, rfl, rfl, by simp, by simp, by simp, by simp⟩ ?_ ?_
  · rintro ρ ⟨done, sets, x6, x7, x10, rfl, e1, e2, e3, e4, e5, _⟩
    simp only [List.foldl_nil] at e2
    subst e2
    rw [List.append_nil] at e1
    refine read_law_7 hz hc hp e4 e5 (Nat.le_trans e3 ?_)
    rw [e1]
    exact Nat.le_trans (Nat.pow_le_pow_right (by decide) sl) (by decide)
  · rintro x r ρ N _ ⟨done, sets, x6, x7, x10, rfl, e1, e2, e3, e4, e5, e6⟩ hN
    have hx : x ∈ stretchesM z.length := by rw [← e1]; simp
    have dl : done.length < 16 := by have := congrArg List.length e1; rw [List.length_append, List.length_cons] at this; omega
    simp
    refine lcW_opt encW (fun row => if (decide (row.length < z.length + 1) && noBad z row x) = true then some (encW (row ++ [x])) else none) sets [] (fun row hr Q2 q2 => ?_) ?_
    · have hr2 := e4 row hr
      simp
      by_cases h1 : row.length < z.length + 1
      · rw [if_pos (by omega)]
        refine lcW_opt encP (fun y => if decide (0 < exZ z x y + exZ z y x) = true then some (encP y) else none) row [] (fun y hy Q3 q3 => ?_) ?_
        · have p1 := hp.at hx (hr2 y hy)
          have p2 := hp.at (hr2 y hy) hx
          simp [isKs, isK, p1, p2]
          by_cases h2 : 0 < exZ z x y + exZ z y x <;> simp [h2] at q3 ⊢ <;> exact q3
        · rw [List.nil_append, filterMap_if (fun y => decide (0 < exZ z x y + exZ z y x)) encP]
          have hb := noBad_iff (z := z) (row := row) (x := x)
          by_cases h2 : (row.filter fun y => decide (0 < exZ z x y + exZ z y x)) = []
          · rw [h2] at hb ⊢
            rw [if_pos (by rfl)]
            refine ⟨le1000 (by have := e6 row hr; omega), ?_⟩
            simpa [h1, hb, encW] using q2
          · rw [if_neg (fun h => h2 (List.map_eq_nil_iff.mp h))]
            rw [decide_eq_false h2] at hb
            simpa [hb] using q2
      · rw [if_neg (by omega)]
        simpa [h1] using q2
    · rw [List.nil_append, filterMap_if (fun row : List Pr => decide (row.length < z.length + 1) && noBad z row x) (fun row => encW (row ++ [x]))]
      have hfl := List.length_filter_le (fun row : List Pr => decide (row.length < z.length + 1) && noBad z row x) sets
      have h2p : 2 ^ done.length ≤ 2 ^ 16 := Nat.pow_le_pow_right (by decide) (by omega)
      refine ⟨by rw [List.length_map, sizeLine_eq]; omega, hN _ ⟨done ++ [x], setStep z sets x, _, _, _, by simp only [setStep, List.map_append, List.map_map]; rfl, by rw [← e1]; simp, e2, ?_, ?_, ?_, ?_⟩⟩
      · unfold setStep
        rw [List.length_append, List.length_map, List.length_append, List.length_singleton, Nat.pow_succ]
        omega
      · intro row hr y hy
        rcases List.mem_append.mp hr with hr | hr
        · exact e4 row hr y hy
        · obtain ⟨row', hr', rfl⟩ := List.mem_map.mp hr
          rcases List.mem_append.mp hy with hy | hy
          · exact e4 row' (List.mem_filter.mp hr').1 y hy
          · rw [List.mem_singleton.mp hy]; exact hx
      · unfold setStep
        intro h
        exact e5 (List.append_eq_nil_iff.mp h).1
      · intro row hr
        rcases List.mem_append.mp hr with hr | hr
        · exact e6 row hr
        · obtain ⟨row', hr', rfl⟩ := List.mem_map.mp hr
          have h1 := (List.mem_filter.mp hr').2
          rw [Bool.and_eq_true, decide_eq_true_eq] at h1
          rw [List.length_append, List.length_singleton]
          omega
theorem read_law : t_law EL rho_law := by
  simp [t_law, W__law_shape]
  intro z hz
  have hz5 : z.length ≤ 3 := by omega
  have hzl : z.length ≤ sizeLine := le1000 (by omega)
  have h7 : z.length ≤ 1000 := by omega
  have h8 : z.length ≤ 100 := by omega
  have hL : z ∈ lists 0 ++ lists 1 ++ lists 2 ++ lists 3 := by
    have := mem_lists z
    match h : z.length with
    | 0 => rw [h] at this; simp [this]
    | 1 => rw [h] at this; simp [this]
    | 2 => rw [h] at this; simp [this]
    | 3 => rw [h] at this; simp [this]
    | n + 4 => omega
  have hc := List.all_eq_true.mp chk34_all z hL
  clear hL
  simp [t_law_1, hzl]
  simp [t_law_2, W_all_stretches, h8]
  simp [t_law_3]
  simp [t_law_4]
  have sl : (stretchesM z.length).length ≤ 16 := by
    have := stretches_len z.length
    have h2 : (z.length + 1) * (z.length + 1) ≤ 4 * 4 := Nat.mul_le_mul (by omega) (by omega)
    omega
  refine forW_inv encP (fun r ρ => ∃ done kvs x6 x7, ρ = [none, some .pl, some (.fz (.str (encS z))), some (.fz (.int ((z.length : Int) + 1))), some (.fz (.list ((stretchesM z.length).map encP))), some (.od kvs), x6, x7, none, none, none, none, none, none, none, none, none, none, none, none, none, none, none, none] ∧
    done ++ r = stretchesM z.length ∧ kvs.length ≤ done.length * 16 ∧ ∀ x ∈ done, ∀ y ∈ stretchesM z.length, dlook kvs (prK x y) = some (.int (exZ z x y))) _ _ ⟨[], [], none, none, rfl, rfl, by simp, by simp⟩ ?_ ?_
  · rintro ρ ⟨done, kvs, x6, x7, rfl, e1, e2, e3⟩
    rw [List.append_nil] at e1
    subst e1
    exact read_law_5 hz5 hc e3
  · rintro x r ρ N _ ⟨done, kvs, x6, x7, rfl, e1, e2, e3⟩ hN
    have hx : okP z.length x := stretches_ok (by rw [← e1]; simp)
    have dl : done.length ≤ 16 := by have := congrArg List.length e1; rw [List.length_append] at this; omega
    simp
    refine forW_inv encP (fun r2 ρ => ∃ done2 kvs x7, ρ = [none, some .pl, some (.fz (.str (encS z))), some (.fz (.int ((z.length : Int) + 1))), some (.fz (.list ((stretchesM z.length).map encP))), some (.od kvs), some (.fz (encP x)), x7, none, none, none, none, none, none, none, none, none, none, none, none, none, none, none, none] ∧
      done2 ++ r2 = stretchesM z.length ∧ kvs.length ≤ done.length * 16 + done2.length ∧ (∀ x ∈ done, ∀ y ∈ stretchesM z.length, dlook kvs (prK x y) = some (.int (exZ z x y))) ∧ ∀ y ∈ done2, dlook kvs (prK x y) = some (.int (exZ z x y))) _ _ ⟨[], kvs, _, rfl, rfl, by simpa using e2, e3, by simp⟩ ?_ ?_
    · rintro ρ ⟨done2, kvs, x7, rfl, f1, f2, f3, f4⟩
      rw [List.append_nil] at f1
      subst f1
      refine hN _ ⟨done ++ [x], kvs, _, _, rfl, by rw [← e1]; simp, by rw [List.length_append]; simp; omega, fun x' hx' y hy => ?_⟩
      rcases List.mem_append.mp hx' with h | h
      · exact f3 x' h y hy
      · rw [List.mem_singleton.mp h]; exact f4 y hy
    · rintro y r2 ρ N2 _ ⟨done2, kvs, x7, rfl, f1, f2, f3, f4⟩ hN2
      have hy : okP z.length y := stretches_ok (by rw [← f1]; simp)
      have d2 : done2.length ≤ 16 := by have := congrArg List.length f1; rw [List.length_append] at this; omega
      simp [W_further_by, and_assoc, h7, okT_one hx, okT_one hy, isKs, isK, further_one]
      refine ⟨by omega, hN2 _ ⟨done2 ++ [y], dset kvs (prK x y) (.int (exZ z x y)), _, rfl, by rw [← f1]; simp, ?_, fun x' hx' y' hy' => ?_, fun y' hy' => ?_⟩⟩
      · have := dset_len kvs (prK x y) (.int (exZ z x y))
        rw [List.length_append, List.length_singleton]
        omega
      · rw [dlook_dset]
        split
        · rename_i h
          obtain ⟨rfl, rfl⟩ := prK_inj h
          rfl
        · exact f3 x' hx' y' hy'
      · rw [dlook_dset]
        split
        · rename_i h
          rw [(prK_inj h).2]
        · rcases List.mem_append.mp hy' with h | h
          · exact f4 y' h
          · rename_i h2
            rw [List.mem_singleton.mp h] at h2
            exact (h2 rfl).elim
end DL

namespace DL
open PySem PySem.Spec L2
open PyProof.Rows hiding St
def topS (i : Nat) : Stmt := PySem.Challenge.pw_stretchrows_k34_whole_sets_without_furth.main.body.getD i (.Pass ⟨0, 0, 0, 0⟩)
abbrev s_arrow : Stmt := topS 4
theorem S_arrow : FnScope ["shape", "k"] ["shape", "k"] (defScope s_arrow) := ⟨rfl, rfl, rfl, by decide +kernel, rfl, by decide +kernel, by decide +kernel⟩
section
variable {P : Program} {w : World} {K : PySem.W.Frag} {mg : Str → Option Value} {base : Heap}
theorem ok_arrow (A0 : At K mg "arrow" s_arrow)  : FnD P w K mg base 1 "arrow" 2 W_arrow :=
  mk_fnD (t := t_arrow) A0 S_arrow rfl (fun _ _ _ _ _ _ us hl => match us, hl with | [_, _], _ => rfl) (fun f cdv A outer s H E hr => (qss_one (qs_ret (q_ifExp (qt_cmp (od_eq hr.units) (QE.qb (q_ix (QE.qb (q_var 0)) (QE.qb (q_var 1)))) (QE.qb q_str)) (q_tup (qa_cons (q_var 1) (qa_cons (q_op od_add (QE.qb (q_var 1)) (QE.qb q_int)) qa_nil))) (q_tup (qa_cons (q_op od_add (QE.qb (q_var 1)) (QE.qb q_int)) (qa_cons (q_var 1) qa_nil))))))) r_arrow
end
abbrev s_all_stretches : Stmt := topS 5
theorem S_all_stretches : FnScope ["shape", "n", "found", "i", "j"] ["shape"] (defScope s_all_stretches) := ⟨rfl, rfl, rfl, by decide +kernel, rfl, by decide +kernel, by decide +kernel⟩
section
variable {P : Program} {w : World} {K : PySem.W.Frag} {mg : Str → Option Value} {base : Heap}
theorem ok_all_stretches (A0 : At K mg "all_stretches" s_all_stretches) (z_len : mg "len" = none) (z_range : mg "range" = none) : FnD P w K mg base 1 "all_stretches" 1 W_all_stretches :=
  mk_fnD (t := t_all_stretches) A0 S_all_stretches rfl (fun _ _ _ _ _ _ us hl => match us, hl with | [_], _ => rfl) (fun f cdv A outer s H E hr => (qss_cons (qs_set (i := 1) S_all_stretches.nd rfl (by first | exact Or.inl rfl | exact Or.inr rfl) (q_op od_add (QE.qb (q_callB cd_len (by rfl) z_len (by decide +kernel) (qab_cons (QE.qb (q_var 0)) qab_nil))) (QE.qb q_int))) (qss_cons (qs_own (i := 2) S_all_stretches.nd rfl (by first | exact Or.inl rfl | exact Or.inr rfl) (qf_lst qa_nil)) (qss_cons (qs_for PassesOwn.never (qi_range1 (by rfl) z_range (qab_cons (QE.qb (q_var 1)) qab_nil)) (g_name (i := 3) S_all_stretches.nd rfl (by first | exact Or.inl rfl | exact Or.inr rfl)) (qss_one (qs_extend (i := 2) (qf_lc (own := [("j", 4)]) S_all_stretches.nd (qi_range2 (by rfl) z_range (qab_cons (QE.qb (q_var 3)) (qab_cons (QE.qb (q_var 1)) qab_nil))) (blkOk_by (by rfl)) (fun _ _ _ _ _ => (g_name (i := 4) S_all_stretches.nd rfl (by first | exact Or.inl rfl | exact Or.inr rfl))) (fun _ _ _ _ _ => qts_nil) (fun _ _ _ _ _ => (q_tup (qa_cons (q_var 3) (qa_cons (q_var 4) qa_nil)))))))) (qss_frz 2 (qss_one (qs_ret (q_var 2)))))))) r_all_stretches
end
abbrev s_leads_on : Stmt := topS 7
theorem S_leads_on : FnScope ["shape", "one", "two", "low", "high"] ["shape", "one", "two"] (defScope s_leads_on) := ⟨rfl, rfl, rfl, by decide +kernel, rfl, by decide +kernel, by decide +kernel⟩
section
variable {P : Program} {w : World} {K : PySem.W.Frag} {mg : Str → Option Value} {base : Heap}
theorem ok_leads_on (A0 : At K mg "leads_on" s_leads_on) (z_min : mg "min" = none) (z_max : mg "max" = none) : FnD P w K mg base 1 "leads_on" 3 W_leads_on :=
  mk_fnD (t := t_leads_on) A0 S_leads_on rfl (fun _ _ _ _ _ _ us hl => match us, hl with | [_, _, _], _ => rfl) (fun f cdv A outer s H E hr => (qss_cons (qs_par (i := 3) (j := 4) S_leads_on.nd rfl rfl (by decide) rfl rfl (qa_cons (q_callB cd_max2 (by rfl) z_max (by decide +kernel) (qab_cons (QE.qb (q_ix (QE.qb (q_var 1)) (QE.qb q_int))) (qab_cons (QE.qb (q_ix (QE.qb (q_var 2)) (QE.qb q_int))) qab_nil))) (qa_cons (q_callB cd_min2 (by rfl) z_min (by decide +kernel) (qab_cons (QE.qb (q_ix (QE.qb (q_var 1)) (QE.qb q_int))) (qab_cons (QE.qb (q_ix (QE.qb (q_var 2)) (QE.qb q_int))) qab_nil))) qa_nil)) (by rfl)) (qss_cons (qs_if (qt_cmp od_gt (QE.qb (q_var 3)) (QE.qb (q_var 4))) (qss_one (qs_ret q_int)) qss_nil) (qss_cons (qs_if (PW.pt (qw_or (PW.pt (qw_and (qt_cmp od_lt (QE.qb (q_ix (QE.qb (q_var 1)) (QE.qb q_int))) (QE.qb (q_var 3))) (qw_and1 (qt_cmp (od_ne hr.units) (QE.qb (q_ix (QE.qb (q_var 0)) (QE.qb (q_op od_sub (QE.qb (q_var 3)) (QE.qb q_int))))) (QE.qb q_str))))) (qw_or1 (PW.pt (qw_and (qt_cmp od_lt (QE.qb (q_ix (QE.qb (q_var 2)) (QE.qb q_int))) (QE.qb (q_var 3))) (qw_and1 (qt_cmp (od_ne hr.units) (QE.qb (q_ix (QE.qb (q_var 0)) (QE.qb (q_op od_sub (QE.qb (q_var 3)) (QE.qb q_int))))) (QE.qb q_str)))))))) (qss_one (qs_ret q_int)) qss_nil) (qss_cons (qs_if (PW.pt (qw_or (PW.pt (qw_and (qt_cmp od_gt (QE.qb (q_ix (QE.qb (q_var 1)) (QE.qb q_int))) (QE.qb (q_var 4))) (qw_and1 (qt_cmp (od_ne hr.units) (QE.qb (q_ix (QE.qb (q_var 0)) (QE.qb (q_var 4)))) (QE.qb q_str))))) (qw_or1 (PW.pt (qw_and (qt_cmp od_gt (QE.qb (q_ix (QE.qb (q_var 2)) (QE.qb q_int))) (QE.qb (q_var 4))) (qw_and1 (qt_cmp (od_ne hr.units) (QE.qb (q_ix (QE.qb (q_var 0)) (QE.qb (q_var 4)))) (QE.qb q_str)))))))) (qss_one (qs_ret q_int)) qss_nil) (qss_one (qs_ret q_int))))))) r_leads_on
end
abbrev s_maps_by : Stmt := topS 8
theorem S_maps_by : FnScope ["shape", "one", "two", "x", "a", "y", "b"] ["shape", "one", "two"] (defScope s_maps_by) := ⟨rfl, rfl, rfl, by decide +kernel, rfl, by decide +kernel, by decide +kernel⟩
section
variable {P : Program} {w : World} {K : PySem.W.Frag} {mg : Str → Option Value} {base : Heap}
theorem ok_maps_by (A0 : At K mg "maps_by" s_maps_by) (F_leads_on : FnD P w K mg base 1 "leads_on" 3 W_leads_on) (z_sum : mg "sum" = none) : FnD P w K mg base 2 "maps_by" 3 W_maps_by :=
  mk_fnD (t := t_maps_by) A0 S_maps_by rfl (fun _ _ _ _ _ _ us hl => match us, hl with | [_, _, _], _ => rfl) (fun f cdv A outer s H E hr => (qss_one (qs_ret (q_callB cd_sum (by rfl) z_sum (by decide +kernel) (qab_cons (QE.qb (q_lc2 (own := [("x", 3), ("a", 4), ("y", 5), ("b", 6)]) (vs1 := [5, 6]) S_maps_by.nd (qi_seq (q_var 1)) (blkOk_by (by rfl)) (fun _ _ _ _ _ => (g_tup (gs_cons (g_name (i := 3) S_maps_by.nd rfl (by first | exact Or.inl rfl | exact Or.inr rfl)) (gs_cons (g_name (i := 4) S_maps_by.nd rfl (by first | exact Or.inl rfl | exact Or.inr rfl)) gs_nil)))) (fun _ _ _ _ _ => qts_nil) (fun _ _ _ _ _ => (qi_seq (q_var 2))) (fun _ _ _ _ _ => (g_tup (gs_cons (g_name (i := 5) S_maps_by.nd rfl (by first | exact Or.inl rfl | exact Or.inr rfl)) (gs_cons (g_name (i := 6) S_maps_by.nd rfl (by first | exact Or.inl rfl | exact Or.inr rfl)) gs_nil)))) (fun _ _ _ _ _ => qts_nil) (fun _ _ _ _ _ => (q_op od_mul (QE.qb (q_op od_mul (QE.qb (q_var 4)) (QE.qb (q_var 6)))) (QE.qb (q_callF F_leads_on (hr.mono (by decide)) rfl (qa_cons (q_var 0) (qa_cons (q_var 3) (qa_cons (q_var 5) qa_nil))))))))) qab_nil))))) r_maps_by
end
abbrev s_sizes_by : Stmt := topS 9
theorem S_sizes_by : FnScope ["shape", "table", "k", "i", "j", "many"] ["shape", "table"] (defScope s_sizes_by) := ⟨rfl, rfl, rfl, by decide +kernel, rfl, by decide +kernel, by decide +kernel⟩
section
variable {P : Program} {w : World} {K : PySem.W.Frag} {mg : Str → Option Value} {base : Heap}
theorem ok_sizes_by (A0 : At K mg "sizes_by" s_sizes_by) (z_tuple : mg "tuple" = none) (z_range : mg "range" = none) (z_len : mg "len" = none) (z_sum : mg "sum" = none) : FnD P w K mg base 1 "sizes_by" 2 W_sizes_by :=
  mk_fnD (t := t_sizes_by) A0 S_sizes_by rfl (fun _ _ _ _ _ _ us hl => match us, hl with | [_, _], _ => rfl) (fun f cdv A outer s H E hr => (qss_one (qs_ret (q_callTy cd_tupOf (by rfl) z_tuple (by decide +kernel) (qab_cons (QE.qb (q_lc (own := [("k", 2)]) S_sizes_by.nd (qi_range1 (by rfl) z_range (qab_cons (QE.qb (q_op od_add (QE.qb (q_callB cd_len (by rfl) z_len (by decide +kernel) (qab_cons (QE.qb (q_var 0)) qab_nil))) (QE.qb q_int))) qab_nil)) (blkOk_by (by rfl)) (fun _ _ _ _ _ => (g_name (i := 2) S_sizes_by.nd rfl (by first | exact Or.inl rfl | exact Or.inr rfl))) (fun _ _ _ _ _ => qts_nil) (fun _ _ _ _ _ => (q_callB cd_sum (by rfl) z_sum (by decide +kernel) (qab_cons (QE.qb (q_lc (own := [("i", 3), ("j", 4), ("many", 5)]) S_sizes_by.nd (qi_seq (q_var 1)) (blkOk_by (by rfl)) (fun _ _ _ _ _ => (g_tup (gs_cons (g_tup (gs_cons (g_name (i := 3) S_sizes_by.nd rfl (by first | exact Or.inl rfl | exact Or.inr rfl)) (gs_cons (g_name (i := 4) S_sizes_by.nd rfl (by first | exact Or.inl rfl | exact Or.inr rfl)) gs_nil))) (gs_cons (g_name (i := 5) S_sizes_by.nd rfl (by first | exact Or.inl rfl | exact Or.inr rfl)) gs_nil)))) (fun _ _ _ _ _ => (qts_one (qt_chain od_le od_le (QE.qb (q_var 3)) (QE.qb (q_var 2)) (QE.qb (q_var 4))))) (fun _ _ _ _ _ => (q_var 5)))) qab_nil))))) qab_nil))))) r_sizes_by
end
abbrev s_euler : Stmt := topS 10
theorem S_euler : FnScope ["shape", "one", "two", "found", "k", "start", "end", "a", "b"] ["shape", "one", "two"] (defScope s_euler) := ⟨rfl, rfl, rfl, by decide +kernel, rfl, by decide +kernel, by decide +kernel⟩
section
variable {P : Program} {w : World} {K : PySem.W.Frag} {mg : Str → Option Value} {base : Heap}
theorem ok_euler (A0 : At K mg "euler" s_euler) (F_arrow : FnD P w K mg base 1 "arrow" 2 W_arrow) (z_len : mg "len" = none) (z_sum : mg "sum" = none) (z_zip : mg "zip" = none) (z_range : mg "range" = none) : FnD P w K mg base 2 "euler" 3 W_euler :=
  mk_fnD (t := t_euler) A0 S_euler rfl (fun _ _ _ _ _ _ us hl => match us, hl with | [_, _, _], _ => rfl) (fun f cdv A outer s H E hr => (qss_cons (qs_if (PW.pt (qw_or (qt_cmp (od_ne hr.units) (QE.qb (q_callB cd_len (by rfl) z_len (by decide +kernel) (qab_cons (QE.qb (q_var 1)) qab_nil))) (QE.qb (q_op od_add (QE.qb (q_callB cd_len (by rfl) z_len (by decide +kernel) (qab_cons (QE.qb (q_var 0)) qab_nil))) (QE.qb q_int)))) (qw_or1 (qt_cmp (od_ne hr.units) (QE.qb (q_callB cd_len (by rfl) z_len (by decide +kernel) (qab_cons (QE.qb (q_var 2)) qab_nil))) (QE.qb (q_callB cd_len (by rfl) z_len (by decide +kernel) (qab_cons (QE.qb (q_var 1)) qab_nil))))))) (qss_one qs_never) qss_nil) (qss_cons (qs_set (i := 3) S_euler.nd rfl (by first | exact Or.inl rfl | exact Or.inr rfl) (q_callB cd_sum (by rfl) z_sum (by decide +kernel) (qab_cons (QE.qb (q_lc (own := [("a", 7), ("b", 8)]) S_euler.nd (qi_zip (by rfl) z_zip (qa_cons (q_var 1) (qa_cons (q_var 2) qa_nil))) (blkOk_by (by rfl)) (fun _ _ _ _ _ => (g_tup (gs_cons (g_name (i := 7) S_euler.nd rfl (by first | exact Or.inl rfl | exact Or.inr rfl)) (gs_cons (g_name (i := 8) S_euler.nd rfl (by first | exact Or.inl rfl | exact Or.inr rfl)) gs_nil)))) (fun _ _ _ _ _ => qts_nil) (fun _ _ _ _ _ => (q_op od_mul (QE.qb (q_var 7)) (QE.qb (q_var 8)))))) qab_nil))) (qss_cons (qs_for PassesOwn.never (qi_range1 (by rfl) z_range (qab_cons (QE.qb (q_callB cd_len (by rfl) z_len (by decide +kernel) (qab_cons (QE.qb (q_var 0)) qab_nil))) qab_nil)) (g_name (i := 4) S_euler.nd rfl (by first | exact Or.inl rfl | exact Or.inr rfl)) (qss_cons (qs_asg (q_callF F_arrow (hr.mono (by decide)) rfl (qa_cons (q_var 0) (qa_cons (q_var 4) qa_nil))) (g_tup (gs_cons (g_name (i := 5) S_euler.nd rfl (by first | exact Or.inl rfl | exact Or.inr rfl)) (gs_cons (g_name (i := 6) S_euler.nd rfl (by first | exact Or.inl rfl | exact Or.inr rfl)) gs_nil)))) (qss_one (qs_aug (i := 3) od_isub (QE.qb (q_op od_mul (QE.qb (q_ix (QE.qb (q_var 1)) (QE.qb (q_var 5)))) (QE.qb (q_ix (QE.qb (q_var 2)) (QE.qb (q_var 6)))))) S_euler.nd rfl (by first | exact Or.inl rfl | exact Or.inr rfl))))) (qss_one (qs_ret (q_var 3))))))) r_euler
end
abbrev s_further_by : Stmt := topS 11
theorem S_further_by : FnScope ["shape", "one", "two"] ["shape", "one", "two"] (defScope s_further_by) := ⟨rfl, rfl, rfl, by decide +kernel, rfl, by decide +kernel, by decide +kernel⟩
section
variable {P : Program} {w : World} {K : PySem.W.Frag} {mg : Str → Option Value} {base : Heap}
theorem ok_further_by (A0 : At K mg "further_by" s_further_by) (F_maps_by : FnD P w K mg base 2 "maps_by" 3 W_maps_by) (F_euler : FnD P w K mg base 2 "euler" 3 W_euler) (F_sizes_by : FnD P w K mg base 1 "sizes_by" 2 W_sizes_by) : FnD P w K mg base 3 "further_by" 3 W_further_by :=
  mk_fnD (t := t_further_by) A0 S_further_by rfl (fun _ _ _ _ _ _ us hl => match us, hl with | [_, _, _], _ => rfl) (fun f cdv A outer s H E hr => (qss_one (qs_ret (q_op od_sub (QE.qb (q_callF F_maps_by (hr.mono (by decide)) rfl (qa_cons (q_var 0) (qa_cons (q_var 1) (qa_cons (q_var 2) qa_nil))))) (QE.qb (q_callF F_euler (hr.mono (by decide)) rfl (qa_cons (q_var 0) (qa_cons (q_callF F_sizes_by (hr.mono (by decide)) rfl (qa_cons (q_var 0) (qa_cons (q_var 1) qa_nil))) (qa_cons (q_callF F_sizes_by (hr.mono (by decide)) rfl (qa_cons (q_var 0) (qa_cons (q_var 2) qa_nil))) qa_nil))))))))) r_further_by
end
abbrev s_is_rigid : Stmt := topS 12
theorem S_is_rigid : FnScope ["shape", "table"] ["shape", "table"] (defScope s_is_rigid) := ⟨rfl, rfl, rfl, by decide +kernel, rfl, by decide +kernel, by decide +kernel⟩
section
variable {P : Program} {w : World} {K : PySem.W.Frag} {mg : Str → Option Value} {base : Heap}
theorem ok_is_rigid (A0 : At K mg "is_rigid" s_is_rigid) (F_further_by : FnD P w K mg base 3 "further_by" 3 W_further_by) : FnD P w K mg base 4 "is_rigid" 2 W_is_rigid :=
  mk_fnD (t := t_is_rigid) A0 S_is_rigid rfl (fun _ _ _ _ _ _ us hl => match us, hl with | [_, _], _ => rfl) (fun f cdv A outer s H E hr => (qss_one (qs_ret (q_cmp (od_eq hr.units) (QE.qb (q_callF F_further_by (hr.mono (by decide)) rfl (qa_cons (q_var 0) (qa_cons (q_var 1) (qa_cons (q_var 1) qa_nil))))) (QE.qb q_int))))) r_is_rigid
end
/-! ### the pool: laid from the script -/
abbrev s__law_pool : Stmt := topS 14
theorem S__law_pool : FnScope ["script", "salt", "cell"] ["script"] (defScope s__law_pool) := ⟨rfl, rfl, rfl, by decide +kernel, rfl, by decide +kernel, by decide +kernel⟩
section
variable {P : Program} {w : World} {K : PySem.W.Frag} {mg : Str → Option Value} {base : Heap}
theorem ok__law_pool (A0 : At K mg "_law_pool" s__law_pool) (z_int : mg "int" = none) (z_list : mg "list" = none) : FnPool P w K mg base 1 "_law_pool" := by
  obtain ⟨f, fd, hm, F⟩ := A0.ex
  refine ⟨f, fd, ["script"], hm, F.kp, F.binds (fun _ _ _ _ _ _ us hl => match us, hl with | [_], _ => rfl), ?_⟩
  refine F.ok S__law_pool (fun vs H Q E h => ?_) (fun cdv A outer s H vs Q E hr h => ?_)
  · obtain ⟨a, ns, rfl, _⟩ := h
    rfl
  · obtain ⟨a, ns, rfl, hS, hlen, q⟩ := h
    refine ⟨_, pss_cons (ps_set (i := 1) S__law_pool.nd rfl (.inl rfl) pe_int)
      (pss_cons (ps_for PassesOwn.never rfl (pi_list (pe_slice sl_list (pv 0) po_none (po_some pe_int))) (pg_name (i := 2) S__law_pool.nd rfl (.inl rfl))
        (pss_one (ps_set (i := 1) S__law_pool.nd rfl (.inl rfl) (pe_op op_mod (pe_callTy call_int1 (by rfl) z_int (by decide +kernel) (pa_cons (pe_op op_add (pe_op op_mul (pv 1) pe_int) (pv 2)) pa_nil)) pe_int))))
      (pss_one (ps_ret (pe_lst (pa_cons (pe_callTy call_list_of (by rfl) z_list (by decide +kernel) (pa_cons (pv 0) pa_nil)) (pa_cons pe_int (pa_cons pe_int (pa_cons pe_int (pa_cons (pv 1) pa_nil))))))))), ?_⟩
    refine ⟨.ref a, rfl, 63, rfl, a, ns.map V.int, rfl, hS, fun c nc => ?_⟩
    have sc : Same H (upd H c (.lst (cutV (ns.map V.int) none (some 63)))) := same_new nc
    have ecut : cutV (ns.map V.int) none (some 63) = (ns.take 63).map V.int := by
      unfold cutV
      rw [show HT.sIx (ns.map V.int).length 0 none = 0 from HT.sIx_none _ _, show HT.sIx (ns.map V.int).length (ns.map V.int).length (some 63) = min 63 (ns.map V.int).length from HT.sIx_nat _ _ 63, List.map_take]
      rw [List.length_map, Nat.sub_zero, List.drop_zero, List.take_of_length_le (by rw [List.length_map]; omega), List.take_of_length_le (by rw [List.length_map]; omega)]
    rw [ecut] at sc ⊢
    have hc : SqL K (upd H c (.lst ((ns.take 63).map V.int))) c ((ns.take 63).map V.int) := .inl (.inl upd_same)
    refine ⟨c, rfl, ⟨_, hc⟩, fun i m σ H3 => ∃ (s : Int) (y2 : Option V), σ = [some (.ref a), some (.int s), y2] ∧ i + m = (ns.take 63).length ∧ H3 = upd H c (.lst ((ns.take 63).map V.int)), ⟨(ns.take 63).length, 7, none, rfl, by omega, rfl⟩, fun i m σ H3 hW => ?_⟩
    obtain ⟨s7, y2, rfl, em, rfl⟩ := hW
    by_cases hi : i < (ns.take 63).length
    · have g : ((ns.take 63).map V.int)[i]? = some (.int (ns.take 63)[i]) := by
        rw [List.getElem?_map, List.getElem?_eq_getElem hi]
        rfl
      refine .inr ⟨⟨_, _, hc, g⟩, fun σ' H' => ∃ (s : Int) (y2 : Option V), σ' = [some (.ref a), some (.int s), y2] ∧ H' = upd H c (.lst ((ns.take 63).map V.int)), fun σ' H' hN => ?_, fun v H' hy => ?_⟩
      · obtain ⟨z3, z4, e1, e2⟩ := hN
        exact ⟨m - 1, by omega, z3, z4, e1, by omega, e2⟩
      · obtain ⟨rfl, fv⟩ := hy
        have ev : v = .int (ns.take 63)[i] := Option.some.inj ((fv _ hc).symm.trans g)
        subst ev
        refine ⟨.int s7, rfl, s7, 31, rfl, rfl, .inr (by decide), .int _, rfl, _, _, rfl, rfl, .inl ⟨_, rfl, _, _, rfl, rfl, (show (0:Int) < 1000003 by decide), _, _, rfl, rfl⟩⟩
    · refine .inl ⟨⟨_, hc, ?_⟩, ?_⟩
      · rw [List.length_map]
        omega
      · refine ⟨.ref a, rfl, a, ns.map V.int, rfl, .inl (sc.seq hS), fun l hl => ⟨.int s7, rfl, (show 5 ≤ sizeLine by decide), fun p hp => ?_⟩⟩
        have np : p ≠ l := fun e => by rw [e, upd_same] at hp; cases hp
        have s2 : Same (upd H c (.lst ((ns.take 63).map V.int))) (upd (upd H c (.lst ((ns.take 63).map V.int))) l (.lst (ns.map V.int))) := same_new hl
        have hp0 : H p = none := by
          cases z : H p with
          | none => rfl
          | some o => rw [s2 _ _ (sc _ _ z)] at hp; cases hp
        refine q _ p l (sc.trans (s2.trans (same_new hp))) hp0 ⟨0, 0, 0, s7, upd_same, by decide⟩ ?_ np
        rw [upd_ne np.symm, upd_same]
end

abbrev s__law_spread : Stmt := topS 15
theorem S__law_spread : FnScope ["cell", "mixed", "total", "k"] ["cell"] (defScope s__law_spread) := ⟨rfl, rfl, rfl, by decide +kernel, rfl, by decide +kernel, by decide +kernel⟩
section
variable {P : Program} {w : World} {K : PySem.W.Frag} {mg : Str → Option Value} {base : Heap}
theorem ok__law_spread (A0 : At K mg "_law_spread" s__law_spread) (z_int : mg "int" = none) (z_range : mg "range" = none) : FnD P w K mg base 1 "_law_spread" 1 W__law_spread :=
  mk_fnD (t := t__law_spread) A0 S__law_spread rfl (fun _ _ _ _ _ _ us hl => match us, hl with | [_], _ => rfl) (fun f cdv A outer s H E hr => (qss_cons (qs_set (i := 1) S__law_spread.nd rfl (by first | exact Or.inl rfl | exact Or.inr rfl) (q_op od_mod (QE.qb (q_callTy cd_int (by rfl) z_int (by decide +kernel) (qab_cons (QE.qb (q_var 0)) qab_nil))) (QE.qb q_int))) (qss_cons (qs_set (i := 2) S__law_spread.nd rfl (by first | exact Or.inl rfl | exact Or.inr rfl) q_int) (qss_cons (qs_for PassesOwn.never (qi_range1 (by rfl) z_range (qab_cons (QE.qb q_int) qab_nil)) (g_name (i := 3) S__law_spread.nd rfl (by first | exact Or.inl rfl | exact Or.inr rfl)) (qss_cons (qs_set (i := 1) S__law_spread.nd rfl (by first | exact Or.inl rfl | exact Or.inr rfl) (q_op od_mod (QE.qb (q_callTy cd_int (by rfl) z_int (by decide +kernel) (qab_cons (QE.qb (q_op od_add (QE.qb (q_op od_add (QE.qb (q_op od_mul (QE.qb (q_var 1)) (QE.qb q_int))) (QE.qb q_int))) (QE.qb (q_var 3)))) qab_nil))) (QE.qb q_int))) (qss_one (qs_set (i := 2) S__law_spread.nd rfl (by first | exact Or.inl rfl | exact Or.inr rfl) (q_op od_add (QE.qb (q_op od_mul (QE.qb (q_var 2)) (QE.qb q_int))) (QE.qb (q_var 1))))))) (qss_one (qs_ret (q_var 2))))))) r__law_spread
end
abbrev s__law_draw : Stmt := topS 16
theorem S__law_draw : FnScope ["pool", "many", "cell", "mixed", "value"] ["pool", "many"] (defScope s__law_draw) := ⟨rfl, rfl, rfl, by decide +kernel, rfl, by decide +kernel, by decide +kernel⟩
section
variable {P : Program} {w : World} {K : PySem.W.Frag} {mg : Str → Option Value} {base : Heap}
theorem ok__law_draw (A0 : At K mg "_law_draw" s__law_draw) (F__law_spread : FnD P w K mg base 1 "_law_spread" 1 W__law_spread) (z_int : mg "int" = none) (z_len : mg "len" = none) : FnP P w K mg base 2 "_law_draw" 2 W__law_draw := by
  obtain ⟨f, fd, hm, F⟩ := A0.ex
  obtain ⟨fs, fds, pss, hms, hks, hbs, FS⟩ := F__law_spread.ex
  refine ⟨f, fd, ["pool", "many"], hm, F.kp, F.binds (fun _ _ _ _ _ _ us hl => match us, hl with | [_, _], _ => rfl), ?_⟩
  refine F.ok S__law_draw (fun vs H Q E ⟨O, a, c, ns, rest, ds, Q', h0, h1, _, _, _, _, h2, _⟩ => by rw [h0, List.length_cons, h2.length]; exact h1) (fun cdv A outer s H vs Q E hr h => ?_)
  obtain ⟨O, a, c, ns, rest, ds, Q', rfl, h1, h2, h3, h4, h5, h6, ⟨m, rfl, m1, m2, q0⟩, q⟩ := h
  obtain ⟨vm, rfl, hvm⟩ : ∃ v, rest = [v] ∧ Rep w K (fun b => O b ∨ b = a) H v (.int m) := by
    cases h6 with
    | cons r t => cases t; exact ⟨_, rfl, r⟩
  cases hvm
  obtain ⟨i, j, k, sl, hp, i0⟩ := h4
  -- what is known all along
  have hc0 : H c = some (.lst (ns.map V.int)) := h5.2
  have nac : a ≠ c := fun e => h5.1 (.inr e.symm)
  refine ⟨_, pss_cons (ps_if (PW.pt (pw_and (pt_cmpR op_le (pe_ix ix_list (pv 0) pe_int (fun _ _ => rfl)) pe_int (nomark _)) (pw_and1 (pt_cmpR op_lt (pe_ix ix_list (pv 0) pe_int (fun _ _ => rfl)) (pe_callB call_len_seq (by rfl) z_len PySem.boot_len (pa_cons (pe_ix ix_list (pv 0) pe_int (fun _ _ => rfl)) pa_nil)) (nomark _)))))
        (pss_cons (ps_set (i := 2) S__law_draw.nd rfl (.inl rfl) (pe_ix ix_list (pe_ix ix_list (pv 0) pe_int (fun _ _ => rfl)) (pe_ix ix_list (pv 0) pe_int (fun _ _ => rfl)) (fun _ _ => rfl)))
        (pss_cons (ps_asg (pe_op op_add (pe_ix ix_list (pv 0) pe_int (fun _ _ => rfl)) pe_int) (pg_sub (pv 0) pe_int set_list (by intro _; rfl)))
        (pss_cons (ps_asg (pv 2) (pg_sub (pv 0) pe_int set_list (by intro _; rfl)))
        (pss_one (ps_if (pt_cmpR op_lt (pv 2) pe_int (nomark _))
          (pss_one (ps_asg (pe_call FS (hr.mono (by decide)) (by rfl) hms hks hbs .nil pass0 (pa_cons (pv 2) pa_nil)) (pg_sub (pv 0) pe_int set_list (by intro _; rfl)))) pss_nil))))) pss_nil)
      (pss_cons (ps_asg (pe_op op_add (pe_ix ix_list (pv 0) pe_int (fun _ _ => rfl)) pe_int) (pg_sub (pv 0) pe_int set_list (by intro _; rfl)))
      (pss_cons (ps_if (pt_cmpR op_le (pe_ix ix_list (pv 0) pe_int (fun _ _ => rfl)) pe_int (nomark _))
        (pss_cons (ps_set (i := 3) S__law_draw.nd rfl (.inl rfl) (pe_op op_mod (pe_callTy call_int1 (by rfl) z_int (by decide +kernel) (pa_cons (pe_op op_add (pe_op op_add (pe_op op_mul (pe_ix ix_list (pv 0) pe_int (fun _ _ => rfl)) pe_int) (pe_op op_mul (pe_ix ix_list (pv 0) pe_int (fun _ _ => rfl)) pe_int)) pe_int) pa_nil)) pe_int))
        (pss_cons (ps_set (i := 3) S__law_draw.nd rfl (.inl rfl) (pe_op op_mod (pe_callTy call_int1 (by rfl) z_int (by decide +kernel) (pa_cons (pe_op op_add (pe_op op_mul (pv 3) pe_int) (pe_ix ix_list (pv 0) pe_int (fun _ _ => rfl))) pa_nil)) pe_int))
        (pss_one (ps_ret (pe_op op_mod (pe_op op_fdiv (pv 3) pe_int) (pv 1)))))) pss_nil)
      (pss_cons (ps_set (i := 4) S__law_draw.nd rfl (.inl rfl) (pe_op op_mod (pe_callTy call_int1 (by rfl) z_int (by decide +kernel) (pa_cons (pe_ix ix_list (pv 0) pe_int (fun _ _ => rfl)) pa_nil)) (pv 1)))
      (pss_cons (ps_asg (pe_op op_fdiv (pe_ix ix_list (pv 0) pe_int (fun _ _ => rfl)) (pv 1)) (pg_sub (pv 0) pe_int set_list (by intro _; rfl)))
      (pss_one (ps_ret (pv 4))))))), ?_⟩
  refine seq_key (fun σ' H' => ∃ y2 y3 y4 i j k sl, σ' = [some (.ref a), some (.int m), y2, y3, y4] ∧ Ext (some (a, c)) H H' ∧ H' a = some (.lst [.ref c, .int i, .int j, .int k, .int sl]) ∧ 0 ≤ i) ?_ (fun key => ?_)
  · rintro σ' H' ⟨y2, y3, y4, i, j, k, sl, rfl, e, ha, i0⟩
    refine ⟨.ref a, rfl, a, _, 3, .int k, rfl, rfl, .inl (.inl ha), rfl, k, 1, rfl, rfl, .ref a, rfl, a, _, 3, 3, rfl, rfl, ha, rfl, ?_⟩
    have ha1 : (upd H' a (.lst ([V.ref c, .int i, .int j, .int k, .int sl].set 3 (.int (k + 1))))) a = some (.lst [.ref c, .int i, .int j, .int (k + 1), .int sl]) := upd_same
    have e1 : Ext (some (a, c)) H (upd H' a (.lst ([V.ref c, .int i, .int j, .int k, .int sl].set 3 (.int (k + 1))))) := ext_pool e ⟨_, _, _, _, ha1, i0⟩
    refine ⟨.ref a, rfl, a, _, 2, .int j, rfl, rfl, .inl (.inl ha1), rfl, j, 0, rfl, rfl, _, rfl, ite2 (fun _ => ?_) (fun _ => ?_)⟩
    · refine ⟨.ref a, rfl, a, _, 4, .int sl, rfl, rfl, .inl (.inl ha1), rfl, sl, 48271, rfl, rfl, .inr (by decide), .ref a, rfl, a, _, 3, .int (k + 1), rfl, rfl, .inl (.inl ha1), rfl, k + 1, 69621, rfl, rfl, .inr (by decide), _, _, rfl, rfl, _, 1, rfl, rfl, .inl ⟨_, rfl, _, 2147483647, rfl, rfl, (show (0:Int) < 2147483647 by decide), ?_⟩⟩
      refine ⟨_, rfl, _, 16807, rfl, rfl, .inr (by decide), .ref a, rfl, a, _, 3, .int (k + 1), rfl, rfl, .inl (.inl ha1), rfl, _, _, rfl, rfl, .inl ⟨_, rfl, _, 2147483629, rfl, rfl, (show (0:Int) < 2147483629 by decide), ?_⟩⟩
      refine ⟨_, rfl, _, 5, rfl, rfl, (show CDiv _ 5 from ⟨by decide, by decide⟩), _, rfl, _, m, rfl, rfl, m1, ?_⟩
      exact q _ (q0 _ (Int.emod_nonneg _ (by omega)) (Int.emod_lt_of_pos _ m1)) _ _ e1 (.int _)
    · refine ⟨.ref a, rfl, a, _, 2, .int j, rfl, rfl, .inl (.inl ha1), rfl, .inl ⟨_, rfl, _, rfl, _, m, rfl, rfl, m1, ?_⟩⟩
      refine ⟨.ref a, rfl, a, _, 2, .int j, rfl, rfl, .inl (.inl ha1), rfl, _, rfl, j, m, rfl, rfl, (show CDiv j m from ⟨m1, by omega⟩), .ref a, rfl, a, _, 2, 2, rfl, rfl, ha1, rfl, ?_⟩
      refine ⟨_, rfl, ?_⟩
      exact q _ (q0 _ (Int.emod_nonneg _ (by omega)) (Int.emod_lt_of_pos _ m1)) _ _ (ext_pool e1 ⟨_, _, _, _, upd_same, i0⟩) (.int _)
  · refine ⟨.ref a, rfl, a, _, 2, .int j, rfl, rfl, .inl (.inl hp), rfl, j, 0, rfl, rfl, _, rfl, ?_⟩
    refine ite2 (fun _ => ?_) (fun _ => key _ _ ⟨_, _, _, i, j, k, sl, rfl, Ext.refl _ _, hp, i0⟩)
    refine ⟨.ref a, rfl, a, _, 1, .int i, rfl, rfl, .inl (.inl hp), rfl, ?_⟩
    refine ⟨.ref a, rfl, a, _, 0, .ref c, rfl, rfl, .inl (.inl hp), rfl, ?_⟩
    refine ⟨c, _, rfl, .inl (.inl (.inl hc0)), i, _, rfl, rfl, _, rfl, ?_⟩
    by_cases hi : i < ((ns.map V.int).length : Int)
    · rw [decide_eq_true hi]
      obtain ⟨n, rfl⟩ := Int.eq_ofNat_of_zero_le i0
      have hn : n < ns.length := by simpa using hi
      have g : atI (ns.map V.int) (n : Int) = some (.int ns[n]) := atI_nat (j := n) (by rw [List.getElem?_map, List.getElem?_eq_getElem hn]; rfl)
      refine ⟨.ref a, rfl, a, _, 0, .ref c, rfl, rfl, .inl (.inl hp), rfl, .ref a, rfl, a, _, 1, .int (n : Int), rfl, rfl, .inl (.inl hp), rfl, c, _, (n : Int), .int ns[n], rfl, rfl, .inl (.inl hc0), g, ?_⟩
      -- pool[1] = pool[1] + 1
      refine ⟨.ref a, rfl, a, _, 1, .int (n : Int), rfl, rfl, .inl (.inl hp), rfl, _, 1, rfl, rfl, .ref a, rfl, a, _, 1, 1, rfl, rfl, hp, rfl, ?_⟩
      have hp1 : (upd H a (.lst ([V.ref c, .int n, .int j, .int k, .int sl].set 1 (.int ((n : Int) + 1))))) a = some (.lst [.ref c, .int ((n : Int) + 1), .int j, .int k, .int sl]) := upd_same
      have e1 : Ext (some (a, c)) H (upd H a (.lst ([V.ref c, .int n, .int j, .int k, .int sl].set 1 (.int ((n : Int) + 1))))) := ext_pool (Ext.refl _ _) ⟨_, _, _, _, hp1, by omega⟩
      -- pool[2] = cell
      refine ⟨_, rfl, .ref a, rfl, a, _, 2, 2, rfl, rfl, hp1, rfl, ?_⟩
      generalize upd H a (.lst ([V.ref c, .int n, .int j, .int k, .int sl].set 1 (.int ((n : Int) + 1)))) = H1 at hp1 e1 ⊢
      have hp2 : (upd H1 a (.lst ([V.ref c, .int ((n : Int) + 1), .int j, .int k, .int sl].set 2 (.int ns[n])))) a = some (.lst [.ref c, .int ((n : Int) + 1), .int ns[n], .int k, .int sl]) := upd_same
      have e2 : Ext (some (a, c)) H (upd H1 a (.lst ([V.ref c, .int ((n : Int) + 1), .int j, .int k, .int sl].set 2 (.int ns[n])))) := ext_pool e1 ⟨_, _, _, _, hp2, by omega⟩
      generalize upd H1 a (.lst ([V.ref c, .int ((n : Int) + 1), .int j, .int k, .int sl].set 2 (.int ns[n]))) = H2 at hp2 e2 ⊢
      refine ⟨_, rfl, _, 1000000000000000000, rfl, rfl, _, rfl, ite2 (fun _ => ?_) (fun _ => key _ _ ⟨_, _, _, _, _, _, _, rfl, e2, hp2, by omega⟩)⟩
      refine ⟨_, rfl, ?_⟩
      refine ⟨fun _ => False, [.int ns[n]], fun d => ∃ r, d = .int r, rfl, fun b z => z.elim, .cons (.int _) .nil, ⟨_, rfl, fun r => ⟨r, rfl⟩⟩, ?_⟩
      rintro _ ⟨r, rfl⟩ v H3 sm rv
      cases rv
      have hp3 := sm _ _ hp2
      refine ⟨.ref a, rfl, a, _, 2, 2, rfl, rfl, hp3, rfl, ?_⟩
      exact key _ _ ⟨_, _, _, _, _, _, _, rfl, ext_pool (e2.trans (.of sm)) ⟨_, _, _, _, upd_same, by omega⟩, upd_same, by omega⟩
    · rw [decide_eq_false hi]
      exact key _ _ ⟨_, _, _, i, j, k, sl, rfl, Ext.refl _ _, hp, i0⟩
end

abbrev s__law_pick : Stmt := topS 17
theorem S__law_pick : FnScope ["pool", "items"] ["pool", "items"] (defScope s__law_pick) := ⟨rfl, rfl, rfl, by decide +kernel, rfl, by decide +kernel, by decide +kernel⟩
section
variable {P : Program} {w : World} {K : PySem.W.Frag} {mg : Str → Option Value} {base : Heap}
theorem ok__law_pick (A0 : At K mg "_law_pick" s__law_pick) (F__law_draw : FnP P w K mg base 2 "_law_draw" 2 W__law_draw) (z_len : mg "len" = none) : FnP P w K mg base 3 "_law_pick" 2 W__law_pick :=
  mk_fnP (t := t__law_pick) A0 S__law_pick rfl (fun _ _ _ _ _ _ us hl => match us, hl with | [_, _], _ => rfl) (fun f cdv A outer s H E hr => (qss_one (qs_ret (q_ix (QE.qb (q_var 1)) (QE.qb (q_callFP F__law_draw (hr.mono (by decide)) rfl (qa_cons (q_callB cd_len (by rfl) z_len (by decide +kernel) (qab_cons (QE.qb (q_var 1)) qab_nil)) qa_nil))))))) r__law_pick
end
abbrev s__law_shape : Stmt := topS 18
theorem S__law_shape : FnScope ["pool", "most", "k"] ["pool", "most"] (defScope s__law_shape) := ⟨rfl, rfl, rfl, by decide +kernel, rfl, by decide +kernel, by decide +kernel⟩
section
variable {P : Program} {w : World} {K : PySem.W.Frag} {mg : Str → Option Value} {base : Heap}
theorem ok__law_shape (A0 : At K mg "_law_shape" s__law_shape) (F__law_draw : FnP P w K mg base 2 "_law_draw" 2 W__law_draw) (z_range : mg "range" = none) : FnP P w K mg base 3 "_law_shape" 2 W__law_shape :=
  mk_fnP (t := t__law_shape) A0 S__law_shape rfl (fun _ _ _ _ _ _ us hl => match us, hl with | [_, _], _ => rfl) (fun f cdv A outer s H E hr => (qss_one (qs_ret (q_join (QE.qb q_str) (QE.qb (q_lc (own := [("k", 2)]) S__law_shape.nd (qi_range1 (by rfl) z_range (qab_cons (QE.qb (q_callFP F__law_draw (hr.mono (by decide)) rfl (qa_cons (q_op od_add (QE.qb (q_var 1)) (QE.qb q_int)) qa_nil))) qab_nil)) (blkOk_by (by rfl)) (fun _ _ _ _ _ => (g_name (i := 2) S__law_shape.nd rfl (by first | exact Or.inl rfl | exact Or.inr rfl))) (fun _ _ _ _ _ => qts_nil) (fun _ _ _ _ _ => (q_ix (QE.qb (q_tup (qa_cons q_str (qa_cons q_str qa_nil)))) (QE.qb (q_callFP F__law_draw (hr.mono (by decide)) rfl (qa_cons q_int qa_nil))))))))))) r__law_shape
end
abbrev s__law_stretches : Stmt := topS 19
theorem S__law_stretches : FnScope ["shape", "found", "i", "j"] ["shape"] (defScope s__law_stretches) := ⟨rfl, rfl, rfl, by decide +kernel, rfl, by decide +kernel, by decide +kernel⟩
section
variable {P : Program} {w : World} {K : PySem.W.Frag} {mg : Str → Option Value} {base : Heap}
theorem ok__law_stretches (A0 : At K mg "_law_stretches" s__law_stretches) (z_range : mg "range" = none) (z_len : mg "len" = none) : FnD P w K mg base 1 "_law_stretches" 1 W__law_stretches :=
  mk_fnD (t := t__law_stretches) A0 S__law_stretches rfl (fun _ _ _ _ _ _ us hl => match us, hl with | [_], _ => rfl) (fun f cdv A outer s H E hr => (qss_cons (qs_own (i := 1) S__law_stretches.nd rfl (by first | exact Or.inl rfl | exact Or.inr rfl) (qf_lst qa_nil)) (qss_cons (qs_for PassesOwn.never (qi_range1 (by rfl) z_range (qab_cons (QE.qb (q_op od_add (QE.qb (q_callB cd_len (by rfl) z_len (by decide +kernel) (qab_cons (QE.qb (q_var 0)) qab_nil))) (QE.qb q_int))) qab_nil)) (g_name (i := 2) S__law_stretches.nd rfl (by first | exact Or.inl rfl | exact Or.inr rfl)) (qss_one (qs_for PassesOwn.never (qi_range2 (by rfl) z_range (qab_cons (QE.qb (q_var 2)) (qab_cons (QE.qb (q_op od_add (QE.qb (q_callB cd_len (by rfl) z_len (by decide +kernel) (qab_cons (QE.qb (q_var 0)) qab_nil))) (QE.qb q_int))) qab_nil))) (g_name (i := 3) S__law_stretches.nd rfl (by first | exact Or.inl rfl | exact Or.inr rfl)) (qss_one (qs_append (i := 1) (q_tup (qa_cons (q_var 2) (qa_cons (q_var 3) qa_nil)))))))) (qss_frz 1 (qss_one (qs_ret (q_var 1))))))) r__law_stretches
end
abbrev s__law_table : Stmt := topS 20
theorem S__law_table : FnScope ["pool", "shape", "most", "found", "stretch", "many"] ["pool", "shape", "most"] (defScope s__law_table) := ⟨rfl, rfl, rfl, by decide +kernel, rfl, by decide +kernel, by decide +kernel⟩
section
variable {P : Program} {w : World} {K : PySem.W.Frag} {mg : Str → Option Value} {base : Heap}
theorem ok__law_table (A0 : At K mg "_law_table" s__law_table) (F__law_stretches : FnD P w K mg base 1 "_law_stretches" 1 W__law_stretches) (F__law_draw : FnP P w K mg base 2 "_law_draw" 2 W__law_draw) (z_tuple : mg "tuple" = none) : FnP P w K mg base 3 "_law_table" 3 W__law_table :=
  mk_fnP (t := t__law_table) A0 S__law_table rfl (fun _ _ _ _ _ _ us hl => match us, hl with | [_, _, _], _ => rfl) (fun f cdv A outer s H E hr => (qss_cons (qs_own (i := 3) S__law_table.nd rfl (by first | exact Or.inl rfl | exact Or.inr rfl) (qf_lst qa_nil)) (qss_cons (qs_for PassesOwn.never (qi_seq (q_callF F__law_stretches (hr.mono (by decide)) rfl (qa_cons (q_var 1) qa_nil))) (g_name (i := 4) S__law_table.nd rfl (by first | exact Or.inl rfl | exact Or.inr rfl)) (qss_cons (qs_set (i := 5) S__law_table.nd rfl (by first | exact Or.inl rfl | exact Or.inr rfl) (q_op od_sub (QE.qb (q_callFP F__law_draw (hr.mono (by decide)) rfl (qa_cons (q_op od_add (QE.qb (q_op od_mul (QE.qb q_int) (QE.qb (q_var 2)))) (QE.qb q_int)) qa_nil))) (QE.qb (q_var 2)))) (qss_one (qs_if (qt_cmp od_gt (QE.qb (q_var 5)) (QE.qb q_int)) (qss_one (qs_append (i := 3) (q_tup (qa_cons (q_var 4) (qa_cons (q_var 5) qa_nil))))) qss_nil)))) (qss_one (qs_ret (q_callTy cd_tupOf (by rfl) z_tuple (by decide +kernel) (qab_cons (QE.qb (q_slice (qb_var 3) qo_none (qo_some (QE.qb q_int)))) qab_nil))))))) r__law_table
end
abbrev s_law : Stmt := topS 21
theorem S_law : FnScope ["script", "pool", "shape", "n", "every", "pairs", "x", "y", "sets", "full", "row", "held", "catalan", "k", "lines", "longer", "line", "due", "table", "wild", "rest", "a", "j", "b"] ["script"] (defScope s_law) := ⟨rfl, rfl, rfl, by decide +kernel, rfl, by decide +kernel, by decide +kernel⟩
section
variable {P : Program} {w : World} {K : PySem.W.Frag} {mg : Str → Option Value} {base : Heap}
theorem ok_law {f : Addr} {fd : FuncData} (F : Fun K "law" "law" s_law f fd) (F__law_pool : FnPool P w K mg base 1 "_law_pool") (F__law_shape : FnP P w K mg base 3 "_law_shape" 2 W__law_shape) (F_all_stretches : FnD P w K mg base 1 "all_stretches" 1 W_all_stretches) (F_further_by : FnD P w K mg base 3 "further_by" 3 W_further_by) (F_leads_on : FnD P w K mg base 1 "leads_on" 3 W_leads_on) (F__law_pick : FnP P w K mg base 3 "_law_pick" 2 W__law_pick) (F__law_draw : FnP P w K mg base 2 "_law_draw" 2 W__law_draw) (F__law_table : FnP P w K mg base 3 "_law_table" 3 W__law_table) (F_is_rigid : FnD P w K mg base 4 "is_rigid" 2 W_is_rigid) (z_len : mg "len" = none) (z_sorted : mg "sorted" = none) (z_set : mg "set" = none) (z_range : mg "range" = none) (z_sum : mg "sum" = none) (z_tuple : mg "tuple" = none) : FnOk P w K mg base CX0 5 f fd ["script"] (spLaw K) := by
  obtain ⟨fp, fdp, psp, hmp, hkp, hbp, FP⟩ := F__law_pool.ex
  refine F.ok S_law (fun vs H Q E h => ?_) (fun cdv A outer s H vs Q E hr h => ?_)
  · obtain ⟨a, ns, rfl, _⟩ := h
    rfl
  · obtain ⟨a, ns, rfl, hS, hlen, q⟩ := h
    have rest : QSs (cxOf CX0 P w K mg base ["script", "pool", "shape", "n", "every", "pairs", "x", "y", "sets", "full", "row", "held", "catalan", "k", "lines", "longer", "line", "due", "table", "wild", "rest", "a", "j", "b"] "law" (defScope s_law) f cdv A outer s H E).nox (defBody s_law).tail t_law := (qss_cons (qs_set (i := 2) S_law.nd rfl (by first | exact Or.inl rfl | exact Or.inr rfl) (q_callFP F__law_shape (hr.mono (by decide)) rfl (qa_cons q_int qa_nil))) (qss_cons (qs_set (i := 3) S_law.nd rfl (by first | exact Or.inl rfl | exact Or.inr rfl) (q_op od_add (QE.qb (q_callB cd_len (by rfl) z_len (by decide +kernel) (qab_cons (QE.qb (q_var 2)) qab_nil))) (QE.qb q_int))) (qss_cons (qs_set (i := 4) S_law.nd rfl (by first | exact Or.inl rfl | exact Or.inr rfl) (q_callF F_all_stretches (hr.mono (by decide)) rfl (qa_cons (q_var 2) qa_nil))) (qss_cons (qs_ownD (i := 5) S_law.nd rfl (by first | exact Or.inl rfl | exact Or.inr rfl) qfd_new) (qss_cons (qs_for PassesOwn.never (qi_seq (q_var 4)) (g_name (i := 6) S_law.nd rfl (by first | exact Or.inl rfl | exact Or.inr rfl)) (qss_one (qs_for PassesOwn.never (qi_seq (q_var 4)) (g_name (i := 7) S_law.nd rfl (by first | exact Or.inl rfl | exact Or.inr rfl)) (qss_one (qs_dset (i := 5) hr.units (q_callF F_further_by (hr.mono (by decide)) rfl (qa_cons (q_var 2) (qa_cons (q_tup (qa_cons (q_tup (qa_cons (q_var 6) (qa_cons q_int qa_nil))) qa_nil)) (qa_cons (q_tup (qa_cons (q_tup (qa_cons (q_var 7) (qa_cons q_int qa_nil))) qa_nil)) qa_nil)))) (q_tup (qa_cons (q_var 6) (qa_cons (q_var 7) qa_nil)))))))) (qss_cons (qs_set (i := 8) S_law.nd rfl (by first | exact Or.inl rfl | exact Or.inr rfl) (q_lst (qa_cons (q_tup qa_nil) qa_nil))) (qss_cons (qs_for PassesOwn.never (qi_seq (q_var 4)) (g_name (i := 6) S_law.nd rfl (by first | exact Or.inl rfl | exact Or.inr rfl)) (qss_one (qs_set (i := 8) S_law.nd rfl (by first | exact Or.inl rfl | exact Or.inr rfl) (q_op od_add (QE.qb (q_var 8)) (QE.qb (q_lc (own := [("row", 10)]) S_law.nd (qi_seq (q_var 8)) (blkOk_by (by rfl)) (fun _ _ _ _ _ => (g_name (i := 10) S_law.nd rfl (by first | exact Or.inl rfl | exact Or.inr rfl))) (fun _ _ _ _ _ => (qts_one (PW.pt (qw_and (qt_cmp od_lt (QE.qb (q_callB cd_len (by rfl) z_len (by decide +kernel) (qab_cons (QE.qb (q_var 10)) qab_nil))) (QE.qb (q_var 3))) (qw_and1 (qt_cmp (od_eq hr.units) (QE.qb (q_callB cd_len (by rfl) z_len (by decide +kernel) (qab_cons (QE.qb (q_lc (own := [("y", 7)]) S_law.nd (qi_seq (q_var 10)) (blkOk_by (by rfl)) (fun _ _ _ _ _ => (g_name (i := 7) S_law.nd rfl (by first | exact Or.inl rfl | exact Or.inr rfl))) (fun _ _ _ _ _ => (qts_one (qt_cmp od_gt (QE.qb (q_op od_add (QE.qb (q_dget hr.units (qb_var 5) (QE.qb (q_tup (qa_cons (q_var 6) (qa_cons (q_var 7) qa_nil)))))) (QE.qb (q_dget hr.units (qb_var 5) (QE.qb (q_tup (qa_cons (q_var 7) (qa_cons (q_var 6) qa_nil)))))))) (QE.qb q_int)))) (fun _ _ _ _ _ => (q_var 7)))) qab_nil))) (QE.qb q_int))))))) (fun _ _ _ _ _ => (q_op od_add (QE.qb (q_var 10)) (QE.qb (q_tup (qa_cons (q_var 6) qa_nil))))))))))) (qss_cons (qs_set (i := 9) S_law.nd rfl (by first | exact Or.inl rfl | exact Or.inr rfl) q_int) (qss_cons (qs_for PassesOwn.never (qi_seq (q_var 8)) (g_name (i := 10) S_law.nd rfl (by first | exact Or.inl rfl | exact Or.inr rfl)) (qss_cons (qs_set (i := 11) S_law.nd rfl (by first | exact Or.inl rfl | exact Or.inr rfl) (q_sortedSet (by rfl) z_sorted (by rfl) z_set (QE.qb (q_lc (own := [("k", 13)]) S_law.nd (qi_range1 (by rfl) z_range (qab_cons (QE.qb (q_var 3)) qab_nil)) (blkOk_by (by rfl)) (fun _ _ _ _ _ => (g_name (i := 13) S_law.nd rfl (by first | exact Or.inl rfl | exact Or.inr rfl))) (fun _ _ _ _ _ => (qts_one (qt_cmp od_gt (QE.qb (q_callB cd_len (by rfl) z_len (by decide +kernel) (qab_cons (QE.qb (q_lc (own := [("x", 6)]) S_law.nd (qi_seq (q_var 10)) (blkOk_by (by rfl)) (fun _ _ _ _ _ => (g_name (i := 6) S_law.nd rfl (by first | exact Or.inl rfl | exact Or.inr rfl))) (fun _ _ _ _ _ => (qts_one (PW.pt (qw_and (qt_cmp od_le (QE.qb (q_ix (QE.qb (q_var 6)) (QE.qb q_int))) (QE.qb (q_var 13))) (qw_and1 (qt_cmp od_le (QE.qb (q_var 13)) (QE.qb (q_ix (QE.qb (q_var 6)) (QE.qb q_int))))))))) (fun _ _ _ _ _ => (q_var 6)))) qab_nil))) (QE.qb q_int)))) (fun _ _ _ _ _ => (q_var 13)))))) (qss_cons (qs_if (qt_cmp od_gt (QE.qb (q_callB cd_len (by rfl) z_len (by decide +kernel) (qab_cons (QE.qb (q_var 10)) qab_nil))) (QE.qb (q_callB cd_len (by rfl) z_len (by decide +kernel) (qab_cons (QE.qb (q_var 11)) qab_nil)))) (qss_one (qs_ret q_bl)) qss_nil) (qss_one (qs_set (i := 9) S_law.nd rfl (by first | exact Or.inl rfl | exact Or.inr rfl) (q_op od_add (QE.qb (q_var 9)) (QE.qb (q_ifExp (qt_cmp (od_eq hr.units) (QE.qb (q_callB cd_len (by rfl) z_len (by decide +kernel) (qab_cons (QE.qb (q_var 10)) qab_nil))) (QE.qb (q_callB cd_len (by rfl) z_len (by decide +kernel) (qab_cons (QE.qb (q_var 11)) qab_nil)))) q_int q_int)))))))) (qss_cons (qs_own (i := 12) S_law.nd rfl (by first | exact Or.inl rfl | exact Or.inr rfl) (qf_lst (qa_cons q_int qa_nil))) (qss_cons (qs_for PassesOwn.never (qi_range1 (by rfl) z_range (qab_cons (QE.qb (q_op od_add (QE.qb (q_var 3)) (QE.qb q_int))) qab_nil)) (g_name (i := 13) S_law.nd rfl (by first | exact Or.inl rfl | exact Or.inr rfl)) (qss_one (qs_append (i := 12) (q_callB cd_sum (by rfl) z_sum (by decide +kernel) (qab_cons (QE.qb (q_lc (own := [("j", 22)]) S_law.nd (qi_range1 (by rfl) z_range (qab_cons (QE.qb (q_op od_add (QE.qb (q_var 13)) (QE.qb q_int))) qab_nil)) (blkOk_by (by rfl)) (fun _ _ _ _ _ => (g_name (i := 22) S_law.nd rfl (by first | exact Or.inl rfl | exact Or.inr rfl))) (fun _ _ _ _ _ => qts_nil) (fun _ _ _ _ _ => (q_op od_mul (QE.qb (q_ix (qb_var 12) (QE.qb (q_var 22)))) (QE.qb (q_ix (qb_var 12) (QE.qb (q_op od_sub (QE.qb (q_var 13)) (QE.qb (q_var 22)))))))))) qab_nil))))) (qss_cons (qs_if (qt_cmp (od_ne hr.units) (QE.qb (q_var 9)) (QE.qb (q_ix (qb_var 12) (QE.qb (q_op od_add (QE.qb (q_var 3)) (QE.qb q_int)))))) (qss_one (qs_ret q_bl)) qss_nil) (qss_cons (qs_set (i := 14) S_law.nd rfl (by first | exact Or.inl rfl | exact Or.inr rfl) (q_lst (qa_cons (q_tup qa_nil) qa_nil))) (qss_cons (qs_for PassesOwn.never (qi_range1 (by rfl) z_range (qab_cons (QE.qb (q_var 3)) qab_nil)) (g_name (i := 13) S_law.nd rfl (by first | exact Or.inl rfl | exact Or.inr rfl)) (qss_cons (qs_own (i := 15) S_law.nd rfl (by first | exact Or.inl rfl | exact Or.inr rfl) (qf_lst qa_nil)) (qss_cons (qs_for PassesOwn.never (qi_seq (q_var 14)) (g_name (i := 16) S_law.nd rfl (by first | exact Or.inl rfl | exact Or.inr rfl)) (qss_one (qs_for PassesOwn.never (qi_seq (q_var 4)) (g_name (i := 6) S_law.nd rfl (by first | exact Or.inl rfl | exact Or.inr rfl)) (qss_one (qs_if (qt_cmp (od_eq hr.units) (QE.qb (q_callB cd_len (by rfl) z_len (by decide +kernel) (qab_cons (QE.qb (q_lc (own := [("y", 7)]) S_law.nd (qi_seq (q_var 16)) (blkOk_by (by rfl)) (fun _ _ _ _ _ => (g_name (i := 7) S_law.nd rfl (by first | exact Or.inl rfl | exact Or.inr rfl))) (fun _ _ _ _ _ => (qts_one (qt_cmp od_gt (QE.qb (q_op od_add (QE.qb (q_callF F_leads_on (hr.mono (by decide)) rfl (qa_cons (q_var 2) (qa_cons (q_var 6) (qa_cons (q_var 7) qa_nil))))) (QE.qb (q_dget hr.units (qb_var 5) (QE.qb (q_tup (qa_cons (q_var 6) (qa_cons (q_var 7) qa_nil)))))))) (QE.qb q_int)))) (fun _ _ _ _ _ => (q_var 7)))) qab_nil))) (QE.qb q_int)) (qss_one (qs_append (i := 15) (q_op od_add (QE.qb (q_var 16)) (QE.qb (q_tup (qa_cons (q_var 6) qa_nil)))))) qss_nil))))) (qss_frz 15 (qss_one (qs_set (i := 14) S_law.nd rfl (by first | exact Or.inl rfl | exact Or.inr rfl) (q_var 15))))))) (qss_cons (qs_set (i := 17) S_law.nd rfl (by first | exact Or.inl rfl | exact Or.inr rfl) q_int) (qss_cons (qs_for PassesOwn.never (qi_range1 (by rfl) z_range (qab_cons (QE.qb (q_op od_sub (QE.qb (q_var 3)) (QE.qb q_int))) qab_nil)) (g_name (i := 13) S_law.nd rfl (by first | exact Or.inl rfl | exact Or.inr rfl)) (qss_one (qs_set (i := 17) S_law.nd rfl (by first | exact Or.inl rfl | exact Or.inr rfl) (q_op od_mul (QE.qb (q_var 17)) (QE.qb (q_op od_add (QE.qb (q_var 3)) (QE.qb q_int))))))) (qss_cons (qs_set (i := 10) S_law.nd rfl (by first | exact Or.inl rfl | exact Or.inr rfl) (q_callFP F__law_pick (hr.mono (by decide)) rfl (qa_cons (q_var 8) qa_nil))) (qss_cons (qs_set (i := 18) S_law.nd rfl (by first | exact Or.inl rfl | exact Or.inr rfl) (q_callTy cd_tupOf (by rfl) z_tuple (by decide +kernel) (qab_cons (QE.qb (q_lc (own := [("x", 6)]) S_law.nd (qi_seq (q_callB (cd_sortedT hr.units) (by rfl) z_sorted (by decide +kernel) (qab_cons (QE.qb (q_var 10)) qab_nil))) (blkOk_by (by rfl)) (fun _ _ _ _ _ => (g_name (i := 6) S_law.nd rfl (by first | exact Or.inl rfl | exact Or.inr rfl))) (fun _ _ _ _ _ => qts_nil) (fun _ _ _ _ _ => (q_tup (qa_cons (q_var 6) (qa_cons (q_op od_add (QE.qb q_int) (QE.qb (q_callFP F__law_draw (hr.mono (by decide)) rfl (qa_cons q_int qa_nil)))) qa_nil)))))) qab_nil))) (qss_cons (qs_set (i := 19) S_law.nd rfl (by first | exact Or.inl rfl | exact Or.inr rfl) (q_callFP F__law_table (hr.mono (by decide)) rfl (qa_cons (q_var 2) (qa_cons q_int qa_nil)))) (qss_cons (qs_set (i := 20) S_law.nd rfl (by first | exact Or.inl rfl | exact Or.inr rfl) q_int) (qss_cons (qs_for PassesOwn.never (qi_seq (q_var 19)) (g_tup (gs_cons (g_name (i := 6) S_law.nd rfl (by first | exact Or.inl rfl | exact Or.inr rfl)) (gs_cons (g_name (i := 21) S_law.nd rfl (by first | exact Or.inl rfl | exact Or.inr rfl)) gs_nil))) (qss_one (qs_set (i := 20) S_law.nd rfl (by first | exact Or.inl rfl | exact Or.inr rfl) (q_op od_add (QE.qb (q_var 20)) (QE.qb (q_callB cd_sum (by rfl) z_sum (by decide +kernel) (qab_cons (QE.qb (q_lc (own := [("y", 7), ("b", 23)]) S_law.nd (qi_seq (q_var 19)) (blkOk_by (by rfl)) (fun _ _ _ _ _ => (g_tup (gs_cons (g_name (i := 7) S_law.nd rfl (by first | exact Or.inl rfl | exact Or.inr rfl)) (gs_cons (g_name (i := 23) S_law.nd rfl (by first | exact Or.inl rfl | exact Or.inr rfl)) gs_nil)))) (fun _ _ _ _ _ => qts_nil) (fun _ _ _ _ _ => (q_op od_mul (QE.qb (q_op od_mul (QE.qb (q_var 21)) (QE.qb (q_var 23)))) (QE.qb (q_dget hr.units (qb_var 5) (QE.qb (q_tup (qa_cons (q_var 6) (qa_cons (q_var 7) qa_nil)))))))))) qab_nil))))))) (qss_one (qs_ret (q_and (q_cmp (od_eq hr.units) (QE.qb (q_callB cd_len (by rfl) z_len (by decide +kernel) (qab_cons (QE.qb (q_var 14)) qab_nil))) (QE.qb (q_var 17))) (q_and (q_callF F_is_rigid (hr.mono (by decide)) rfl (qa_cons (q_var 2) (qa_cons (q_var 18) qa_nil))) (q_one (q_cmp (od_eq hr.units) (QE.qb (q_callF F_is_rigid (hr.mono (by decide)) rfl (qa_cons (q_var 2) (qa_cons (q_var 19) qa_nil)))) (QE.qb (q_cmp (od_eq hr.units) (QE.qb (q_var 20)) (QE.qb q_int))))))))))))))))))))))))))))))
    refine ⟨_, pss_cons (ps_set (i := 1) S_law.nd rfl (by first | exact Or.inl rfl | exact Or.inr rfl) (pe_call FP (hr.mono (by decide)) (by rfl) hmp hkp hbp .nil pass0 (pa_cons (pv 0) pa_nil))) rest, ?_⟩
    refine ⟨.ref a, rfl, a, ns, rfl, hS, hlen, fun H' p c sm np hp hc ne => ?_⟩
    exact law_enter (k := 22) hp hc ne rfl rfl q read_law
end
section
variable {P : Program} {w : World} {K : PySem.W.Frag} {mg : Str → Option Value} {base : Heap}
theorem chain (A_arrow : At K mg "arrow" s_arrow) (A_all_stretches : At K mg "all_stretches" s_all_stretches) (A_leads_on : At K mg "leads_on" s_leads_on) (A_maps_by : At K mg "maps_by" s_maps_by) (A_sizes_by : At K mg "sizes_by" s_sizes_by) (A_euler : At K mg "euler" s_euler) (A_further_by : At K mg "further_by" s_further_by) (A_is_rigid : At K mg "is_rigid" s_is_rigid) (A__law_pool : At K mg "_law_pool" s__law_pool) (A__law_spread : At K mg "_law_spread" s__law_spread) (A__law_draw : At K mg "_law_draw" s__law_draw) (A__law_pick : At K mg "_law_pick" s__law_pick) (A__law_shape : At K mg "_law_shape" s__law_shape) (A__law_stretches : At K mg "_law_stretches" s__law_stretches) (A__law_table : At K mg "_law_table" s__law_table) (z_len : mg "len" = none) (z_range : mg "range" = none) (z_min : mg "min" = none) (z_max : mg "max" = none) (z_sum : mg "sum" = none) (z_tuple : mg "tuple" = none) (z_zip : mg "zip" = none) (z_int : mg "int" = none) (z_list : mg "list" = none) (z_sorted : mg "sorted" = none) (z_set : mg "set" = none) {fa : Addr} {fd : FuncData} (F : Fun K "law" "law" s_law fa fd) : FnOk P w K mg base CX0 5 fa fd ["script"] (spLaw K) := by
  have F_arrow := ok_arrow (P := P) (w := w) (base := base) A_arrow  
  have F_all_stretches := ok_all_stretches (P := P) (w := w) (base := base) A_all_stretches  z_len z_range
  have F_leads_on := ok_leads_on (P := P) (w := w) (base := base) A_leads_on  z_min z_max
  have F_maps_by := ok_maps_by (P := P) (w := w) (base := base) A_maps_by F_leads_on z_sum
  have F_sizes_by := ok_sizes_by (P := P) (w := w) (base := base) A_sizes_by  z_tuple z_range z_len z_sum
  have F_euler := ok_euler (P := P) (w := w) (base := base) A_euler F_arrow z_len z_sum z_zip z_range
  have F_further_by := ok_further_by (P := P) (w := w) (base := base) A_further_by F_maps_by F_euler F_sizes_by 
  have F_is_rigid := ok_is_rigid (P := P) (w := w) (base := base) A_is_rigid F_further_by 
  have F__law_pool := ok__law_pool (P := P) (w := w) (base := base) A__law_pool  z_int z_list
  have F__law_spread := ok__law_spread (P := P) (w := w) (base := base) A__law_spread  z_int z_range
  have F__law_draw := ok__law_draw (P := P) (w := w) (base := base) A__law_draw F__law_spread z_int z_len
  have F__law_pick := ok__law_pick (P := P) (w := w) (base := base) A__law_pick F__law_draw z_len
  have F__law_shape := ok__law_shape (P := P) (w := w) (base := base) A__law_shape F__law_draw z_range
  have F__law_stretches := ok__law_stretches (P := P) (w := w) (base := base) A__law_stretches  z_range z_len
  have F__law_table := ok__law_table (P := P) (w := w) (base := base) A__law_table F__law_stretches F__law_draw z_tuple
  exact ok_law F F__law_pool F__law_shape F_all_stretches F_further_by F_leads_on F__law_pick F__law_draw F__law_table F_is_rigid z_len z_sorted z_set z_range z_sum z_tuple
end
theorem all_mk {P : Program} {w : World} {K : PySem.W.Frag} {h : Heap} {mg : Str → Option Value} {fa f0 f1 f2 f3 f4 f5 f6 f7 f8 f9 f10 f11 f12 f13 f14 f15 : Addr} (X : K.In h) (G : h.Ns mainGlobals mg) (hfa : mg "law" = some (.ref fa))
    {od0 an0 od1 an1 od2 an2 od3 an3 od4 an4 od5 an5 od6 an6 od7 an7 od8 an8 od9 an9 od10 an10 od11 an11 od12 an12 od13 an13 od14 an14 od15 an15 : Option Addr} {sl0 sl1 sl2 sl3 sl4 sl5 sl6 sl7 sl8 sl9 sl10 sl11 sl12 sl13 sl14 sl15 : Array (Option Value)} {oc0 kV0 dc0 pm0 cd0 ct0 oc1 kV1 dc1 pm1 cd1 ct1 oc2 kV2 dc2 pm2 cd2 ct2 oc3 kV3 dc3 pm3 cd3 ct3 oc4 kV4 dc4 pm4 cd4 ct4 oc5 kV5 dc5 pm5 cd5 ct5 oc6 kV6 dc6 pm6 cd6 ct6 oc7 kV7 dc7 pm7 cd7 ct7 oc8 kV8 dc8 pm8 cd8 ct8 oc9 kV9 dc9 pm9 cd9 ct9 oc10 kV10 dc10 pm10 cd10 ct10 oc11 kV11 dc11 pm11 cd11 ct11 oc12 kV12 dc12 pm12 cd12 ct12 oc13 kV13 dc13 pm13 cd13 ct13 oc14 kV14 dc14 pm14 cd14 ct14 oc15 kV15 dc15 pm15 cd15 ct15 : Value}
    (a0 : PySem.W.nsIn K mainGlobals "arrow" = some (some (.ref f0))) (l0 : K.lookup f0 = some ⟨oc0, od0, .func (PySem.W.fnOf "arrow" "arrow" (defArgs s_arrow) (defBody s_arrow) (defScope s_arrow) .none kV0 dc0 pm0 an0 cd0 ct0), sl0⟩) (c0 : PySem.W.codeIn K cd0 "arrow" = true) (k0 : PySem.W.keepIn K (.ref f0) = true)
    (a1 : PySem.W.nsIn K mainGlobals "all_stretches" = some (some (.ref f1))) (l1 : K.lookup f1 = some ⟨oc1, od1, .func (PySem.W.fnOf "all_stretches" "all_stretches" (defArgs s_all_stretches) (defBody s_all_stretches) (defScope s_all_stretches) .none kV1 dc1 pm1 an1 cd1 ct1), sl1⟩) (c1 : PySem.W.codeIn K cd1 "all_stretches" = true) (k1 : PySem.W.keepIn K (.ref f1) = true)
    (a2 : PySem.W.nsIn K mainGlobals "leads_on" = some (some (.ref f2))) (l2 : K.lookup f2 = some ⟨oc2, od2, .func (PySem.W.fnOf "leads_on" "leads_on" (defArgs s_leads_on) (defBody s_leads_on) (defScope s_leads_on) .none kV2 dc2 pm2 an2 cd2 ct2), sl2⟩) (c2 : PySem.W.codeIn K cd2 "leads_on" = true) (k2 : PySem.W.keepIn K (.ref f2) = true)
    (a3 : PySem.W.nsIn K mainGlobals "maps_by" = some (some (.ref f3))) (l3 : K.lookup f3 = some ⟨oc3, od3, .func (PySem.W.fnOf "maps_by" "maps_by" (defArgs s_maps_by) (defBody s_maps_by) (defScope s_maps_by) .none kV3 dc3 pm3 an3 cd3 ct3), sl3⟩) (c3 : PySem.W.codeIn K cd3 "maps_by" = true) (k3 : PySem.W.keepIn K (.ref f3) = true)
    (a4 : PySem.W.nsIn K mainGlobals "sizes_by" = some (some (.ref f4))) (l4 : K.lookup f4 = some ⟨oc4, od4, .func (PySem.W.fnOf "sizes_by" "sizes_by" (defArgs s_sizes_by) (defBody s_sizes_by) (defScope s_sizes_by) .none kV4 dc4 pm4 an4 cd4 ct4), sl4⟩) (c4 : PySem.W.codeIn K cd4 "sizes_by" = true) (k4 : PySem.W.keepIn K (.ref f4) = true)
    (a5 : PySem.W.nsIn K mainGlobals "euler" = some (some (.ref f5))) (l5 : K.lookup f5 = some ⟨oc5, od5, .func (PySem.W.fnOf "euler" "euler" (defArgs s_euler) (defBody s_euler) (defScope s_euler) .none kV5 dc5 pm5 an5 cd5 ct5), sl5⟩) (c5 : PySem.W.codeIn K cd5 "euler" = true) (k5 : PySem.W.keepIn K (.ref f5) = true)
    (a6 : PySem.W.nsIn K mainGlobals "further_by" = some (some (.ref f6))) (l6 : K.lookup f6 = some ⟨oc6, od6, .func (PySem.W.fnOf "further_by" "further_by" (defArgs s_further_by) (defBody s_further_by) (defScope s_further_by) .none kV6 dc6 pm6 an6 cd6 ct6), sl6⟩) (c6 : PySem.W.codeIn K cd6 "further_by" = true) (k6 : PySem.W.keepIn K (.ref f6) = true)
    (a7 : PySem.W.nsIn K mainGlobals "is_rigid" = some (some (.ref f7))) (l7 : K.lookup f7 = some ⟨oc7, od7, .func (PySem.W.fnOf "is_rigid" "is_rigid" (defArgs s_is_rigid) (defBody s_is_rigid) (defScope s_is_rigid) .none kV7 dc7 pm7 an7 cd7 ct7), sl7⟩) (c7 : PySem.W.codeIn K cd7 "is_rigid" = true) (k7 : PySem.W.keepIn K (.ref f7) = true)
    (a8 : PySem.W.nsIn K mainGlobals "_law_pool" = some (some (.ref f8))) (l8 : K.lookup f8 = some ⟨oc8, od8, .func (PySem.W.fnOf "_law_pool" "_law_pool" (defArgs s__law_pool) (defBody s__law_pool) (defScope s__law_pool) .none kV8 dc8 pm8 an8 cd8 ct8), sl8⟩) (c8 : PySem.W.codeIn K cd8 "_law_pool" = true) (k8 : PySem.W.keepIn K (.ref f8) = true)
    (a9 : PySem.W.nsIn K mainGlobals "_law_spread" = some (some (.ref f9))) (l9 : K.lookup f9 = some ⟨oc9, od9, .func (PySem.W.fnOf "_law_spread" "_law_spread" (defArgs s__law_spread) (defBody s__law_spread) (defScope s__law_spread) .none kV9 dc9 pm9 an9 cd9 ct9), sl9⟩) (c9 : PySem.W.codeIn K cd9 "_law_spread" = true) (k9 : PySem.W.keepIn K (.ref f9) = true)
    (a10 : PySem.W.nsIn K mainGlobals "_law_draw" = some (some (.ref f10))) (l10 : K.lookup f10 = some ⟨oc10, od10, .func (PySem.W.fnOf "_law_draw" "_law_draw" (defArgs s__law_draw) (defBody s__law_draw) (defScope s__law_draw) .none kV10 dc10 pm10 an10 cd10 ct10), sl10⟩) (c10 : PySem.W.codeIn K cd10 "_law_draw" = true) (k10 : PySem.W.keepIn K (.ref f10) = true)
    (a11 : PySem.W.nsIn K mainGlobals "_law_pick" = some (some (.ref f11))) (l11 : K.lookup f11 = some ⟨oc11, od11, .func (PySem.W.fnOf "_law_pick" "_law_pick" (defArgs s__law_pick) (defBody s__law_pick) (defScope s__law_pick) .none kV11 dc11 pm11 an11 cd11 ct11), sl11⟩) (c11 : PySem.W.codeIn K cd11 "_law_pick" = true) (k11 : PySem.W.keepIn K (.ref f11) = true)
    (a12 : PySem.W.nsIn K mainGlobals "_law_shape" = some (some (.ref f12))) (l12 : K.lookup f12 = some ⟨oc12, od12, .func (PySem.W.fnOf "_law_shape" "_law_shape" (defArgs s__law_shape) (defBody s__law_shape) (defScope s__law_shape) .none kV12 dc12 pm12 an12 cd12 ct12), sl12⟩) (c12 : PySem.W.codeIn K cd12 "_law_shape" = true) (k12 : PySem.W.keepIn K (.ref f12) = true)
    (a13 : PySem.W.nsIn K mainGlobals "_law_stretches" = some (some (.ref f13))) (l13 : K.lookup f13 = some ⟨oc13, od13, .func (PySem.W.fnOf "_law_stretches" "_law_stretches" (defArgs s__law_stretches) (defBody s__law_stretches) (defScope s__law_stretches) .none kV13 dc13 pm13 an13 cd13 ct13), sl13⟩) (c13 : PySem.W.codeIn K cd13 "_law_stretches" = true) (k13 : PySem.W.keepIn K (.ref f13) = true)
    (a14 : PySem.W.nsIn K mainGlobals "_law_table" = some (some (.ref f14))) (l14 : K.lookup f14 = some ⟨oc14, od14, .func (PySem.W.fnOf "_law_table" "_law_table" (defArgs s__law_table) (defBody s__law_table) (defScope s__law_table) .none kV14 dc14 pm14 an14 cd14 ct14), sl14⟩) (c14 : PySem.W.codeIn K cd14 "_law_table" = true) (k14 : PySem.W.keepIn K (.ref f14) = true)
    (a15 : PySem.W.nsIn K mainGlobals "law" = some (some (.ref f15))) (l15 : K.lookup f15 = some ⟨oc15, od15, .func (PySem.W.fnOf "law" "law" (defArgs s_law) (defBody s_law) (defScope s_law) .none kV15 dc15 pm15 an15 cd15 ct15), sl15⟩) (c15 : PySem.W.codeIn K cd15 "law" = true) (k15 : PySem.W.keepIn K (.ref f15) = true)
    (z0 : PySem.W.nsIn K mainGlobals "len" = some none)
    (z1 : PySem.W.nsIn K mainGlobals "range" = some none)
    (z2 : PySem.W.nsIn K mainGlobals "min" = some none)
    (z3 : PySem.W.nsIn K mainGlobals "max" = some none)
    (z4 : PySem.W.nsIn K mainGlobals "sum" = some none)
    (z5 : PySem.W.nsIn K mainGlobals "tuple" = some none)
    (z6 : PySem.W.nsIn K mainGlobals "zip" = some none)
    (z7 : PySem.W.nsIn K mainGlobals "int" = some none)
    (z8 : PySem.W.nsIn K mainGlobals "list" = some none)
    (z9 : PySem.W.nsIn K mainGlobals "sorted" = some none)
    (z10 : PySem.W.nsIn K mainGlobals "set" = some none) :
    ∃ fd : FuncData, (∀ (s : Shared) (v : Value), BindsTo s fd ⟨[v], []⟩ [("script", v)]) ∧ ∀ base : Heap, K.In base → base.Ns mainGlobals mg → FnOk P w K mg base CX0 5 fa fd ["script"] (spLaw K) := by
  have e := hfa.symm.trans (PySem.W.mg_of X G a15)
  cases e
  exact ⟨_, fun s v => .of_eq rfl, fun base _ _ => chain (at_of (PySem.W.mg_of X G a0) (fun_mk (st := s_arrow) l0 c0 k0)) (at_of (PySem.W.mg_of X G a1) (fun_mk (st := s_all_stretches) l1 c1 k1)) (at_of (PySem.W.mg_of X G a2) (fun_mk (st := s_leads_on) l2 c2 k2)) (at_of (PySem.W.mg_of X G a3) (fun_mk (st := s_maps_by) l3 c3 k3)) (at_of (PySem.W.mg_of X G a4) (fun_mk (st := s_sizes_by) l4 c4 k4)) (at_of (PySem.W.mg_of X G a5) (fun_mk (st := s_euler) l5 c5 k5)) (at_of (PySem.W.mg_of X G a6) (fun_mk (st := s_further_by) l6 c6 k6)) (at_of (PySem.W.mg_of X G a7) (fun_mk (st := s_is_rigid) l7 c7 k7)) (at_of (PySem.W.mg_of X G a8) (fun_mk (st := s__law_pool) l8 c8 k8)) (at_of (PySem.W.mg_of X G a9) (fun_mk (st := s__law_spread) l9 c9 k9)) (at_of (PySem.W.mg_of X G a10) (fun_mk (st := s__law_draw) l10 c10 k10)) (at_of (PySem.W.mg_of X G a11) (fun_mk (st := s__law_pick) l11 c11 k11)) (at_of (PySem.W.mg_of X G a12) (fun_mk (st := s__law_shape) l12 c12 k12)) (at_of (PySem.W.mg_of X G a13) (fun_mk (st := s__law_stretches) l13 c13 k13)) (at_of (PySem.W.mg_of X G a14) (fun_mk (st := s__law_table) l14 c14 k14)) (PySem.W.mg_none_of X G z0) (PySem.W.mg_none_of X G z1) (PySem.W.mg_none_of X G z2) (PySem.W.mg_none_of X G z3) (PySem.W.mg_none_of X G z4) (PySem.W.mg_none_of X G z5) (PySem.W.mg_none_of X G z6) (PySem.W.mg_none_of X G z7) (PySem.W.mg_none_of X G z8) (PySem.W.mg_none_of X G z9) (PySem.W.mg_none_of X G z10) (fun_mk (st := s_law) l15 c15 k15)⟩
end DL
open PySem PySem.W PyProof.Rows
set_option maxHeartbeats 0 in
theorem PySem.Challenge.cw_stretchrows_k34_whole_sets_without_furth_holds : PySem.Challenge.rw_stretchrows_k34_whole_sets_without_furth.Holds := by
  w_on; o_law; k_head; (case hw => w_witness2)
  k_fill
  refine L2.walk_of (l := PySem.Challenge.rw_stretchrows_k34_whole_sets_without_furth) (n := 63) (k := 5) (x := "script") (CX := fun _ => L2.CX0) (sp := fun w => DL.spLaw _) rfl (by decide) rfl ⟨rfl, by decide, by decide⟩ (fun w h Y => PySem.W.kIn_of Y) ?F (fun _ _ a ns hl _ hS => ⟨a, ns, rfl, hS, hl, fun _ => rfl⟩) (fun _ _ _ _ _ h => h)
  case F =>
    intro w mg fa h KX G hmg
    refine' DL.all_mk KX G hmg ?a0 ?l0 ?c0 ?k0 ?a1 ?l1 ?c1 ?k1 ?a2 ?l2 ?c2 ?k2 ?a3 ?l3 ?c3 ?k3 ?a4 ?l4 ?c4 ?k4 ?a5 ?l5 ?c5 ?k5 ?a6 ?l6 ?c6 ?k6 ?a7 ?l7 ?c7 ?k7 ?a8 ?l8 ?c8 ?k8 ?a9 ?l9 ?c9 ?k9 ?a10 ?l10 ?c10 ?k10 ?a11 ?l11 ?c11 ?k11 ?a12 ?l12 ?c12 ?k12 ?a13 ?l13 ?c13 ?k13 ?a14 ?l14 ?c14 ?k14 ?a15 ?l15 ?c15 ?k15 ?z0 ?z1 ?z2 ?z3 ?z4 ?z5 ?z6 ?z7 ?z8 ?z9 ?z10
    (case a0 => k_is); (case l0 => k_is); (case c0 => k_is); (case k0 => k_is)
    (case a1 => k_is); (case l1 => k_is); (case c1 => k_is); (case k1 => k_is)
    (case a2 => k_is); (case l2 => k_is); (case c2 => k_is); (case k2 => k_is)
    (case a3 => k_is); (case l3 => k_is); (case c3 => k_is); (case k3 => k_is)
    (case a4 => k_is); (case l4 => k_is); (case c4 => k_is); (case k4 => k_is)
    (case a5 => k_is); (case l5 => k_is); (case c5 => k_is); (case k5 => k_is)
    (case a6 => k_is); (case l6 => k_is); (case c6 => k_is); (case k6 => k_is)
    (case a7 => k_is); (case l7 => k_is); (case c7 => k_is); (case k7 => k_is)
    (case a8 => k_is); (case l8 => k_is); (case c8 => k_is); (case k8 => k_is)
    (case a9 => k_is); (case l9 => k_is); (case c9 => k_is); (case k9 => k_is)
    (case a10 => k_is); (case l10 => k_is); (case c10 => k_is); (case k10 => k_is)
    (case a11 => k_is); (case l11 => k_is); (case c11 => k_is); (case k11 => k_is)
    (case a12 => k_is); (case l12 => k_is); (case c12 => k_is); (case k12 => k_is)
    (case a13 => k_is); (case l13 => k_is); (case c13 => k_is); (case k13 => k_is)
    (case a14 => k_is); (case l14 => k_is); (case c14 => k_is); (case k14 => k_is)
    (case a15 => k_is); (case l15 => k_is); (case c15 => k_is); (case k15 => k_is)
    (case z0 => k_is); (case z1 => k_is); (case z2 => k_is); (case z3 => k_is); (case z4 => k_is); (case z5 => k_is); (case z6 => k_is); (case z7 => k_is); (case z8 => k_is); (case z9 => k_is); (case z10 => k_is)

