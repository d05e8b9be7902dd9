import PyProof.Rows.All
import Wide.All
import OpenK.AllK
import Wide.FinOn
import HandS.ForMost
import HandS.ForExc
import HandS.Defaults
import HandS.CallSlots
import HandS.TryOnly
import HandS.ExcCtx
import HandS.Comp
import HandS.Property
import HandS.ExcOwn
import HandS.ExcInit
import HandS.IsInst
import HandS.RaiseMore
import HandS.SetFor
import HandS.Flow
import HandS.TupAny
import HandS.WordsDict
import HandS.Codes
import HandS.Deep
import HandS.ExcField
import HandS.HotCalls
import HandS.ExcIs
import HandS.IterVal
import KE.KStateDown
import HandS.Head0
import HandS.Head1
import HandS.Head2
import HandS.HeadEnd
import HandS.HeadHook1
import HandS.HeadHook2
import PySem.Challenge.RW_heldbest_k65_nets
section
set_option Elab.async false
set_option linter.all false
set_option maxRecDepth 100000
set_option maxHeartbeats 4000000
/-! Hb0: values W, cells, stores, outcomes; the relations between them and the hand layer's V, Hp, St. -/
namespace Hb
open PySem PySem.Spec PyProof.Rows L2

/-! ### values -/
inductive W where
  | non | bl (b : Bool) | int (i : Int) | str (l : List Nat) | tup (xs : List W) | ref (n : Nat) | cl (c : Nat)
  | im (xs : List W) | lr (xs : List W) | sc (xs : List W)
/-- a text's codes -/
def cs (s : String) : List Nat := s.toList.map Char.toNat
theorem cs_inj {a b : String} : cs a = cs b ↔ a = b := by
  constructor
  · intro h
    unfold cs at h
    have q : ∀ {l m : List Char}, l.map Char.toNat = m.map Char.toNat → l = m := by
      intro l
      induction l with
      | nil => intro m h; cases m with
        | nil => rfl
        | cons => cases h
      | cons c l ih => intro m h; cases m with
        | nil => cases h
        | cons d m =>
          simp only [List.map_cons, List.cons.injEq] at h
          rw [ih h.2, Char.ext (UInt32.toNat_inj.mp h.1)]
    exact String.toList_inj.mp (q h)
  · rintro rfl; rfl
theorem ofString_cs (s : String) : Str.ofString s = ⟨(cs s).toArray⟩ := Str.ofString_eq_toList s
theorem ofString_inj {a b : String} (h : Str.ofString a = Str.ofString b) : a = b := by
  rw [ofString_cs, ofString_cs] at h
  have h1 : (cs a).toArray = (cs b).toArray := by injection h
  exact cs_inj.mp (by simpa using h1)

inductive Cell where
  | lst (ws : List W)
  | ins (c : Nat) (fs : List (String × W))
  | dic (kvs : List (W × W))
abbrev Store := List Cell
inductive Out (α : Type) where
  | ok (a : α) (st : Store)
  | exc (c : Nat) (fs : List (String × W)) (st : Store)
  | bad
/-- what a slot holds: nothing, a value, a list of the def's own, an exception that is handled -/
inductive Sl where
  | no | v (w : W) | l (ws : List W) | x (c : Nat) (fs : List (String × W))
abbrev Env := List Sl
inductive SO where
  | nx (e : Env) (st : Store)
  | rt (w : W) (st : Store)
  | bk (e : Env) (st : Store)
  | ct (e : Env) (st : Store)
  | exc (c : Nat) (fs : List (String × W)) (e : Env) (st : Store)
  | bad
abbrev FE := Env → Store → Out W
abbrev FS := Env → Store → SO
/-- what a def does: of its arguments -/
abbrev FF := List W → Store → Out W
@[reducible] def Out.bind {α β : Type} (x : Out α) (k : α → Store → Out β) : Out β := match x with
  | .ok a st => k a st
  | .exc c fs st => .exc c fs st
  | .bad => .bad

/-! ### relations -/
/-- a list that the program's text has, or that is handed to the law: nobody changes it -/
def SqC (K : PySem.W.Frag) (H : Hp) (a : Addr) (xs : List V) : Prop := (∃ o, H a = some (.frz o (.lst xs))) ∨
  ∃ (o : Obj) (its : Array Value) (n : Nat), K.lookup a = some o ∧ o.cls = .type "list" ∧ o.dict = none ∧ o.data = .seq its n ∧ its.size ≤ sizeLine ∧ Vals xs its.toList
theorem SqC.sq {K : PySem.W.Frag} {H : Hp} {a : Addr} {xs : List V} (h : SqC K H a xs) : SqL K H a xs := by
  rcases h with ⟨o, h⟩ | h
  · exact .inl (.inr ⟨o, h⟩)
  · exact .inr h
/-- what the program's text tells: the written part, the classes' addresses, the exceptions that are held (where, class, dict) -/
structure Glo where
  K : PySem.W.Frag
  ca : Nat → Addr
  pn : Addr → Nat → Option Addr → Prop
/-- where the store's objects stand; the lists that are the defs' own -/
structure Lay where
  io : List Addr
  lv : List Addr
mutual
def RW (g : Glo) (la : Lay) (H : Hp) : W → V → Prop
  | .non, v => v = .non
  | .bl b, v => v = .bl b
  | .int i, v => v = .int i
  | .str l, v => v = .str ⟨l.toArray⟩
  | .tup ws, v => ∃ a vs, v = .ref a ∧ SqT g.K H a vs ∧ vs.length ≤ sizeLine ∧ RWs g la H ws vs
  | .ref n, v => ∃ a, la.io[n]? = some a ∧ v = .ref a
  | .cl c, v => v = .ref (g.ca c)
  | .im ws, v => ∃ p vs, v = .ref p ∧ H p = some (.lst vs) ∧ p ∉ la.io ∧ p ∉ la.lv ∧ vs.length ≤ sizeLine ∧ RWs g la H ws vs
  | .lr _, _ => False
  | .sc ws, v => ∃ a vs, v = .ref a ∧ SqC g.K H a vs ∧ vs.length ≤ sizeLine ∧ RWs g la H ws vs
def RWs (g : Glo) (la : Lay) (H : Hp) : List W → List V → Prop
  | [], vs => vs = []
  | w :: ws, vs => ∃ v vs', vs = v :: vs' ∧ RW g la H w v ∧ RWs g la H ws vs'
end
/-- .. a list of the def's own too -/
def RWx (g : Glo) (la : Lay) (H : Hp) : W → V → Prop
  | .lr ws, v => ∃ p vs, v = .ref p ∧ H p = some (.lst vs) ∧ p ∈ la.lv ∧ vs.length ≤ sizeLine ∧ RWs g la H ws vs
  | w, v => RW g la H w v
def RFs (g : Glo) (la : Lay) (H : Hp) : List (String × W) → List (Str × V) → Prop
  | [], fs => fs = []
  | (f, w) :: r, fs => ∃ v fs', fs = (Str.ofString f, v) :: fs' ∧ RW g la H w v ∧ RFs g la H r fs'
/-- keys of a dict -/
def keyW : W → Option Key
  | .int i => some (.inl i)
  | .str l => some (.inr ⟨l.toArray⟩)
  | _ => none
def RKs (g : Glo) (la : Lay) (H : Hp) : List (W × W) → List (Key × V) → Prop
  | [], kvs => kvs = []
  | (k, w) :: r, kvs => ∃ x v kvs', kvs = (x, v) :: kvs' ∧ keyW k = some x ∧ RW g la H w v ∧ RKs g la H r kvs'
def RC (g : Glo) (la : Lay) (H : Hp) (a : Addr) : Cell → Prop
  | .lst ws => ∃ vs, H a = some (.lst vs) ∧ vs.length ≤ sizeLine ∧ RWs g la H ws vs
  | .ins c fs => ∃ dx fvs, H a = some (.ins (g.ca c) dx fvs) ∧ RFs g la H fs fvs
  | .dic kvs => ∃ kvs', H a = some (.dK kvs') ∧ RKs g la H kvs kvs'
structure RS (g : Glo) (la : Lay) (st : Store) (H : Hp) : Prop where
  len : la.io.length = st.length
  nd : la.io.Nodup
  at_ : ∀ (n : Nat) (c : Cell) (a : Addr), st[n]? = some c → la.io[n]? = some a → RC g la H a c
  lvo : ∀ p, p ∈ la.lv → (∃ vs, H p = some (.lst vs)) ∧ p ∉ la.io
/-- a later state -/
structure Ext (la : Lay) (H : Hp) (la' : Lay) (H' : Hp) : Prop where
  pre : la.io <+: la'.io
  new : ∀ a, a ∈ la'.io ∨ a ∈ la'.lv → a ∉ la.io → a ∉ la.lv → H a = none
  keep : ∀ p o, H p = some o → p ∉ la.io → p ∉ la.lv → H' p = some o
/-- a later state, as an expression leaves it -/
structure ExtE (la : Lay) (H : Hp) (la' : Lay) (H' : Hp) : Prop where
  pre : la.io <+: la'.io
  new : ∀ a, a ∈ la'.io → a ∉ la.io → H a = none
  keep : ∀ p o, H p = some o → p ∉ la.io → H' p = some o
  lv : la'.lv = la.lv
theorem ExtE.ext {la la' : Lay} {H H' : Hp} (e : ExtE la H la' H') : Ext la H la' H' := ⟨e.pre, fun a h n m => by
  rcases h with h | h
  · exact e.new a h n
  · rw [e.lv] at h; exact absurd h m, fun p o h n _ => e.keep p o h n⟩
/-- what a store's own object may be -/
def Own : HO → Prop
  | .lst _ => True
  | .ins _ _ _ => True
  | .dK _ => True
  | _ => False

theorem nd_ix {l : List Addr} (hd : l.Nodup) {i j : Nat} {a : Addr} (h1 : l[i]? = some a) (h2 : l[j]? = some a) : i = j := by
  obtain ⟨l1, q1⟩ := List.getElem?_eq_some_iff.mp h1
  obtain ⟨l2, q2⟩ := List.getElem?_eq_some_iff.mp h2
  have p := List.pairwise_iff_getElem.mp hd
  rcases Nat.lt_trichotomy i j with h | h | h
  · exact absurd (q1.trans q2.symm) (p i j l1 l2 h)
  · exact h
  · exact absurd (q2.trans q1.symm) (p j i l2 l1 h)
section
variable {g : Glo} {la la' la'' : Lay} {H H' H'' : Hp} {st st' : Store}
theorem ExtE.refl : ExtE la H la H := ⟨List.prefix_refl _, fun _ h n => absurd h n, fun _ _ h _ => h, rfl⟩
theorem ExtE.trans (a : ExtE la H la' H') (b : ExtE la' H' la'' H'') : ExtE la H la'' H'' where
  pre := a.pre.trans b.pre
  new := fun p h n => by
    by_cases hp : p ∈ la'.io
    · exact a.new p hp n
    · cases e : H p with
      | none => rfl
      | some o =>
        have q := a.keep p o e n
        rw [b.new p h hp] at q; cases q
  keep := fun p o e n => by
    refine b.keep p o (a.keep p o e n) fun hp => ?_
    rw [a.new p hp n] at e; cases e
  lv := b.lv.trans a.lv
theorem Ext.refl : Ext la H la H := ExtE.refl.ext
theorem Ext.trans (a : Ext la H la' H') (b : Ext la' H' la'' H'') : Ext la H la'' H'' where
  pre := a.pre.trans b.pre
  new := fun p h n m => by
    by_cases hp : p ∈ la'.io ∨ p ∈ la'.lv
    · exact a.new p hp n m
    · cases e : H p with
      | none => rfl
      | some o =>
        have q := a.keep p o e n m
        rw [b.new p h (fun z => hp (.inl z)) (fun z => hp (.inr z))] at q; cases q
  keep := fun p o e n m => by
    refine b.keep p o (a.keep p o e n m) (fun hp => ?_) fun hp => ?_
    · rw [a.new p (.inl hp) n m] at e; cases e
    · rw [a.new p (.inr hp) n m] at e; cases e
theorem Ext.get (a : Ext la H la' H') {n : Nat} {p : Addr} (h : la.io[n]? = some p) : la'.io[n]? = some p := by
  obtain ⟨t, ht⟩ := a.pre
  rw [← ht, List.getElem?_append_left (List.getElem?_eq_some_iff.mp h).1]; exact h
/-- a new object beside the store -/
theorem ExtE.fresh {p : Addr} {o : HO} (h : H p = none) : ExtE la H la (upd H p o) := ⟨List.prefix_refl _, fun _ h n => absurd h n, fun q u e _ => by
  rw [upd_ne (ne_of_none e h)]; exact e, rfl⟩
theorem RS.own (rs : RS g la st H) {a : Addr} (h : a ∈ la.io) : ∃ o, H a = some o ∧ Own o := by
  obtain ⟨n, hn⟩ := List.getElem?_of_mem h
  have hl : n < st.length := by rw [← rs.len]; exact (List.getElem?_eq_some_iff.mp hn).1
  have q := rs.at_ n st[n] a (by simp [hl]) hn
  cases e : st[n] with
  | lst ws => rw [e] at q; obtain ⟨vs, q, _⟩ := q; exact ⟨_, q, trivial⟩
  | ins c fs => rw [e] at q; obtain ⟨dx, fvs, q, _⟩ := q; exact ⟨_, q, trivial⟩
  | dic kvs => rw [e] at q; obtain ⟨k, q, _⟩ := q; exact ⟨_, q, trivial⟩
theorem RS.not_of (rs : RS g la st H) {a : Addr} {o : HO} (h : H a = some o) (n : ¬ Own o) : a ∉ la.io ∧ a ∉ la.lv := by
  refine ⟨fun q => ?_, fun q => ?_⟩
  · obtain ⟨o', e, w⟩ := rs.own q
    rw [h] at e; cases e; exact n w
  · obtain ⟨⟨vs, e⟩, _⟩ := rs.lvo a q
    rw [h] at e; cases e; exact n trivial
theorem RS.new (rs : RS g la st H) {p : Addr} (h : H p = none) : p ∉ la.io ∧ p ∉ la.lv := by
  refine ⟨fun q => ?_, fun q => ?_⟩
  · obtain ⟨o', e, _⟩ := rs.own q
    rw [h] at e; cases e
  · obtain ⟨⟨vs, e⟩, _⟩ := rs.lvo p q
    rw [h] at e; cases e
/-- tuples stay -/
theorem SqT.ext {K : PySem.W.Frag} {a : Addr} {vs : List V} (rs : RS g la st H) (e : Ext la H la' H') (h : SqT K H a vs) : SqT K H' a vs := by
  rcases h with (h | ⟨o, h⟩) | h
  · obtain ⟨n, m⟩ := rs.not_of h (fun z => z)
    exact .inl (.inl (e.keep _ _ h n m))
  · obtain ⟨n, m⟩ := rs.not_of h (fun z => z)
    exact .inl (.inr ⟨o, e.keep _ _ h n m⟩)
  · exact .inr h
theorem SqC.ext {K : PySem.W.Frag} {a : Addr} {vs : List V} (rs : RS g la st H) (e : Ext la H la' H') (h : SqC K H a vs) : SqC K H' a vs := by
  rcases h with ⟨o, h⟩ | h
  · obtain ⟨n, m⟩ := rs.not_of h (fun z => z)
    exact .inl ⟨o, e.keep _ _ h n m⟩
  · exact .inr h
mutual
theorem RW.ext (rs : RS g la st H) (e : Ext la H la' H') : ∀ {w : W} {v : V}, RW g la H w v → RW g la' H' w v
  | .non, v, h => by simp only [RW] at *; exact h
  | .bl b, v, h => by simp only [RW] at *; exact h
  | .int i, v, h => by simp only [RW] at *; exact h
  | .str l, v, h => by simp only [RW] at *; exact h
  | .cl c, v, h => by simp only [RW] at *; exact h
  | .lr ws, v, h => by simp only [RW] at h
  | .ref n, v, h => by
    simp only [RW] at *
    obtain ⟨a, h, q⟩ := h
    exact ⟨a, e.get h, q⟩
  | .tup ws, v, h => by
    simp only [RW] at *
    obtain ⟨a, vs, q, s, z, r⟩ := h
    exact ⟨a, vs, q, SqT.ext rs e s, z, RWs.ext rs e r⟩
  | .im ws, v, h => by
    simp only [RW] at *
    obtain ⟨p, vs, q, s, n, m, z, r⟩ := h
    refine ⟨p, vs, q, e.keep _ _ s n m, fun q => ?_, fun q => ?_, z, RWs.ext rs e r⟩
    · rw [e.new p (.inl q) n m] at s; cases s
    · rw [e.new p (.inr q) n m] at s; cases s
  | .sc ws, v, h => by
    simp only [RW] at *
    obtain ⟨a, vs, q, s, z, r⟩ := h
    exact ⟨a, vs, q, s.ext rs e, z, RWs.ext rs e r⟩
theorem RWs.ext (rs : RS g la st H) (e : Ext la H la' H') : ∀ {ws : List W} {vs : List V}, RWs g la H ws vs → RWs g la' H' ws vs
  | [], vs, h => by simp only [RWs] at *; exact h
  | w :: ws, vs, h => by
    simp only [RWs] at *
    obtain ⟨v, vs', q, r, s⟩ := h
    exact ⟨v, vs', q, RW.ext rs e r, RWs.ext rs e s⟩
end
mutual
theorem RW.lvs {io lv lv' : List Addr} (hs : ∀ p, p ∈ lv' → p ∈ lv) : ∀ {w : W} {v : V}, RW g ⟨io, lv⟩ H w v → RW g ⟨io, lv'⟩ H w v
  | .non, v, h => by simp only [RW] at *; exact h
  | .bl b, v, h => by simp only [RW] at *; exact h
  | .int i, v, h => by simp only [RW] at *; exact h
  | .str l, v, h => by simp only [RW] at *; exact h
  | .cl c, v, h => by simp only [RW] at *; exact h
  | .lr ws, v, h => by simp only [RW] at h
  | .ref n, v, h => by simp only [RW] at *; exact h
  | .tup ws, v, h => by
    simp only [RW] at *
    obtain ⟨a, vs, q, s, z, r⟩ := h
    exact ⟨a, vs, q, s, z, RWs.lvs hs r⟩
  | .im ws, v, h => by
    simp only [RW] at *
    obtain ⟨p, vs, q, s, n, m, z, r⟩ := h
    exact ⟨p, vs, q, s, n, fun q => m (hs _ q), z, RWs.lvs hs r⟩
  | .sc ws, v, h => by
    simp only [RW] at *
    obtain ⟨a, vs, q, s, z, r⟩ := h
    exact ⟨a, vs, q, s, z, RWs.lvs hs r⟩
theorem RWs.lvs {io lv lv' : List Addr} (hs : ∀ p, p ∈ lv' → p ∈ lv) : ∀ {ws : List W} {vs : List V}, RWs g ⟨io, lv⟩ H ws vs → RWs g ⟨io, lv'⟩ H ws vs
  | [], vs, h => by simp only [RWs] at *; exact h
  | w :: ws, vs, h => by
    simp only [RWs] at *
    obtain ⟨v, vs', q, r, s⟩ := h
    exact ⟨v, vs', q, RW.lvs hs r, RWs.lvs hs s⟩
end
theorem RWx.of {w : W} {v : V} (h : RW g la H w v) : RWx g la H w v := by
  cases w <;> first | exact h | (simp only [RW] at h)
theorem RWx.extE (rs : RS g la st H) (e : ExtE la H la' H') {w : W} {v : V} (h : RWx g la H w v) : RWx g la' H' w v := by
  cases w with
  | lr ws =>
    obtain ⟨p, vs, q, s, n, z, r⟩ := h
    exact ⟨p, vs, q, e.keep _ _ s (rs.lvo p n).2, by rw [e.lv]; exact n, z, r.ext rs e.ext⟩
  | _ => exact RW.ext (la' := la') rs e.ext h
theorem RFs.ext (rs : RS g la st H) (e : Ext la H la' H') : ∀ {fs : List (String × W)} {vs : List (Str × V)}, RFs g la H fs vs → RFs g la' H' fs vs
  | [], vs, h => h
  | (f, w) :: r, vs, ⟨v, fs', q, s, t⟩ => ⟨v, fs', q, s.ext rs e, RFs.ext rs e t⟩
theorem RKs.ext (rs : RS g la st H) (e : Ext la H la' H') : ∀ {fs : List (W × W)} {vs : List (Key × V)}, RKs g la H fs vs → RKs g la' H' fs vs
  | [], vs, h => h
  | (f, w) :: r, vs, ⟨x, v, fs', q, k, s, t⟩ => ⟨x, v, fs', q, k, s.ext rs e, RKs.ext rs e t⟩
/-- a cell whose object is as it was -/
theorem RC.ext (rs : RS g la st H) (e : Ext la H la' H') {a : Addr} {c : Cell} (h : RC g la H a c) (same : H' a = H a) : RC g la' H' a c := by
  cases c with
  | lst ws => obtain ⟨vs, q, z, r⟩ := h; exact ⟨vs, by rw [same]; exact q, z, r.ext rs e⟩
  | ins c fs => obtain ⟨dx, fvs, q, r⟩ := h; exact ⟨dx, fvs, by rw [same]; exact q, r.ext rs e⟩
  | dic kvs => obtain ⟨k, q, r⟩ := h; exact ⟨k, by rw [same]; exact q, r.ext rs e⟩
/-- a new object beside the store -/
theorem RS.fresh {p : Addr} {o : HO} (rs : RS g la st H) (h : H p = none) : RS g la st (upd H p o) := ⟨rs.len, rs.nd, fun n c a e1 e2 =>
  (rs.at_ n c a e1 e2).ext rs (ExtE.fresh h).ext (by
    obtain ⟨u, q, _⟩ := rs.own (List.mem_of_getElem? e2)
    exact upd_ne (ne_of_none q h)), fun q hq => by
    obtain ⟨⟨vs, e⟩, n⟩ := rs.lvo q hq
    exact ⟨⟨vs, by rw [upd_ne (ne_of_none e h)]; exact e⟩, n⟩⟩
/-- a new object of the store -/
theorem ExtE.alloc {p : Addr} {o : HO} (h : H p = none) : ExtE la H ⟨la.io ++ [p], la.lv⟩ (upd H p o) := ⟨List.prefix_append _ _, fun a ha n => by
  rcases List.mem_append.mp ha with q | q
  · exact absurd q n
  · rw [List.mem_singleton.mp q]; exact h, fun q u e _ => by
  rw [upd_ne (ne_of_none e h)]; exact e, rfl⟩
theorem RS.alloc {p : Addr} {o : HO} {c : Cell} (rs : RS g la st H) (h : H p = none) (hc : RC g ⟨la.io ++ [p], la.lv⟩ (upd H p o) p c) : RS g ⟨la.io ++ [p], la.lv⟩ (st ++ [c]) (upd H p o) := by
  obtain ⟨np, npl⟩ := rs.new h
  refine ⟨by simp [rs.len], ?_, fun n c' a e1 e2 => ?_, fun q hq => ?_⟩
  · rw [List.nodup_append]
    refine ⟨rs.nd, by simp, fun a ha b hb => ?_⟩
    rw [List.mem_singleton.mp hb]
    rintro rfl; exact np ha
  · simp only at e2
    by_cases hn : n < la.io.length
    · rw [List.getElem?_append_left (by rw [← rs.len]; exact hn)] at e1
      rw [List.getElem?_append_left hn] at e2
      refine (rs.at_ n c' a e1 e2).ext rs (ExtE.alloc h).ext (upd_ne ?_)
      rintro rfl; exact np (List.mem_of_getElem? e2)
    · have hz : n = la.io.length := by
        have := (List.getElem?_eq_some_iff.mp e2).1
        simp at this; omega
      subst hz
      rw [rs.len, List.getElem?_concat_length] at e1
      rw [List.getElem?_concat_length] at e2
      cases e1; cases e2; exact hc
  · obtain ⟨⟨vs, e⟩, n⟩ := rs.lvo q hq
    refine ⟨⟨vs, by rw [upd_ne (ne_of_none e h)]; exact e⟩, fun z => ?_⟩
    rcases List.mem_append.mp z with z | z
    · exact n z
    · rw [List.mem_singleton.mp z] at hq; exact npl hq
/-- an object of the store is changed -/
theorem ExtE.write {n : Nat} {a : Addr} {o : HO} (h : la.io[n]? = some a) : ExtE la H la (upd H a o) := ⟨List.prefix_refl _, fun _ h n => absurd h n, fun q u e nq => by
  have hq : q ≠ a := by
    rintro rfl
    exact nq (List.mem_of_getElem? h)
  rw [upd_ne hq]; exact e, rfl⟩
theorem RS.write {n : Nat} {a : Addr} {o : HO} {c : Cell} (rs : RS g la st H) (h : la.io[n]? = some a) (hc : RC g la (upd H a o) a c) : RS g la (st.set n c) (upd H a o) := by
  have hn := (List.getElem?_eq_some_iff.mp h).1
  have ha := List.mem_of_getElem? h
  refine ⟨by simp [rs.len], rs.nd, fun m c' b e1 e2 => ?_, fun q hq => ?_⟩
  · by_cases hm : n = m
    · subst hm
      rw [List.getElem?_set_self (by rw [← rs.len]; exact hn)] at e1
      cases e1
      rw [h] at e2; cases e2; exact hc
    · rw [List.getElem?_set_ne hm] at e1
      refine (rs.at_ m c' b e1 e2).ext rs (ExtE.write h).ext (upd_ne ?_)
      rintro rfl
      exact hm (nd_ix rs.nd h e2)
  · obtain ⟨⟨vs, e⟩, m⟩ := rs.lvo q hq
    refine ⟨⟨vs, ?_⟩, m⟩
    rw [upd_ne]
    · exact e
    · rintro rfl; exact m ha
theorem RS.get (rs : RS g la st H) {n : Nat} {c : Cell} (h : st[n]? = some c) : ∃ a, la.io[n]? = some a ∧ RC g la H a c := by
  have hn := (List.getElem?_eq_some_iff.mp h).1
  rw [← rs.len] at hn
  exact ⟨la.io[n], by simp [hn], rs.at_ n c _ h (by simp [hn])⟩
theorem RWs.length : ∀ {ws : List W} {vs : List V}, RWs g la H ws vs → vs.length = ws.length
  | [], vs, h => by simp only [RWs] at h; simp [h]
  | w :: ws, vs, h => by
    simp only [RWs] at h
    obtain ⟨v, vs', rfl, _, s⟩ := h
    simp [RWs.length s]
theorem RWs.get : ∀ {ws : List W} {vs : List V} {i : Nat} {w : W}, RWs g la H ws vs → ws[i]? = some w → ∃ v, vs[i]? = some v ∧ RW g la H w v
  | [], vs, i, w, h, e => by simp at e
  | x :: ws, vs, i, w, h, e => by
    simp only [RWs] at h
    obtain ⟨v, vs', rfl, r, s⟩ := h
    cases i with
    | zero => simp at e; subst e; exact ⟨v, rfl, r⟩
    | succ i =>
      obtain ⟨y, h1, h2⟩ := RWs.get (i := i) s (by simpa using e)
      exact ⟨y, by simpa using h1, h2⟩
theorem RWs.append : ∀ {ws ws' : List W} {vs vs' : List V}, RWs g la H ws vs → RWs g la H ws' vs' → RWs g la H (ws ++ ws') (vs ++ vs')
  | [], ws', vs, vs', h, h' => by simp only [RWs] at h; subst h; exact h'
  | w :: ws, ws', vs, vs', h, h' => by
    simp only [RWs] at h
    obtain ⟨v, t, rfl, r, s⟩ := h
    simp only [List.cons_append, RWs]
    exact ⟨v, t ++ vs', rfl, r, RWs.append s h'⟩
theorem RWs.one {w : W} {v : V} (h : RW g la H w v) : RWs g la H [w] [v] := by
  simp only [RWs]; exact ⟨v, [], rfl, h, rfl⟩
theorem RWs.nil : RWs g la H [] [] := by simp only [RWs]
theorem RWs.cons {w : W} {v : V} {ws : List W} {vs : List V} (h : RW g la H w v) (h' : RWs g la H ws vs) : RWs g la H (w :: ws) (v :: vs) := by
  simp only [RWs]; exact ⟨v, vs, rfl, h, h'⟩
theorem RWs.take : ∀ {ws : List W} {vs : List V} (n : Nat), RWs g la H ws vs → RWs g la H (ws.take n) (vs.take n)
  | [], vs, n, h => by simp only [RWs] at h; subst h; simp [RWs]
  | w :: ws, vs, 0, h => by simp [RWs]
  | w :: ws, vs, n + 1, h => by
    simp only [RWs] at h
    obtain ⟨v, t, rfl, r, s⟩ := h
    simp only [List.take_succ_cons]
    exact .cons r (RWs.take n s)
theorem RWs.drop : ∀ {ws : List W} {vs : List V} (n : Nat), RWs g la H ws vs → RWs g la H (ws.drop n) (vs.drop n)
  | [], vs, n, h => by simp only [RWs] at h; subst h; simp [RWs]
  | w :: ws, vs, 0, h => h
  | w :: ws, vs, n + 1, h => by
    simp only [RWs] at h
    obtain ⟨v, t, rfl, r, s⟩ := h
    simp only [List.drop_succ_cons]
    exact RWs.drop n s
theorem RWs.set : ∀ {ws : List W} {vs : List V} {w : W} {v : V} (n : Nat), RW g la H w v → RWs g la H ws vs → RWs g la H (ws.set n w) (vs.set n v)
  | [], vs, w, v, n, r, h => by simp only [RWs] at h; subst h; simp [RWs]
  | x :: ws, vs, w, v, 0, r, h => by
    simp only [RWs] at h
    obtain ⟨y, t, rfl, _, s⟩ := h
    exact .cons r s
  | x :: ws, vs, w, v, n + 1, r, h => by
    simp only [RWs] at h
    obtain ⟨y, t, rfl, q, s⟩ := h
    exact .cons q (RWs.set n r s)
theorem RWs.eraseIdx : ∀ {ws : List W} {vs : List V} (n : Nat), RWs g la H ws vs → RWs g la H (ws.eraseIdx n) (vs.eraseIdx n)
  | [], vs, n, h => by simp only [RWs] at h; subst h; simp [RWs]
  | x :: ws, vs, 0, h => by
    simp only [RWs] at h
    obtain ⟨y, t, rfl, _, s⟩ := h
    exact s
  | x :: ws, vs, n + 1, h => by
    simp only [RWs] at h
    obtain ⟨y, t, rfl, q, s⟩ := h
    exact .cons q (RWs.eraseIdx n s)
theorem RWs.dropLast {ws : List W} {vs : List V} (h : RWs g la H ws vs) : RWs g la H ws.dropLast vs.dropLast := by
  rw [List.dropLast_eq_take, List.dropLast_eq_take, h.length]; exact h.take _
theorem RWs.reverse : ∀ {ws : List W} {vs : List V}, RWs g la H ws vs → RWs g la H ws.reverse vs.reverse
  | [], vs, h => by simp only [RWs] at h; subst h; simp [RWs]
  | x :: ws, vs, h => by
    simp only [RWs] at h
    obtain ⟨y, t, rfl, q, s⟩ := h
    simp only [List.reverse_cons]
    exact (RWs.reverse s).append (.one q)
theorem RWs.ints : ∀ {ns : List Int} {vs : List V}, RWs g la H (ns.map W.int) vs → vs = ns.map V.int
  | [], vs, h => by simpa [RWs] using h
  | n :: ns, vs, h => by
    simp only [List.map_cons, RWs] at h
    obtain ⟨v, vs', rfl, r, s⟩ := h
    simp only [RW] at r
    rw [r, RWs.ints s]; rfl
theorem RWs.of_ints : ∀ {ns : List Int}, RWs g la H (ns.map W.int) (ns.map V.int)
  | [] => RWs.nil
  | n :: ns => .cons (by simp only [RW]) RWs.of_ints
theorem RFs.lookup : ∀ {fs : List (String × W)} {vs : List (Str × V)} {f : String} {w : W}, RFs g la H fs vs → fs.lookup f = some w → ∃ v, vs.lookup (Str.ofString f) = some v ∧ RW g la H w v
  | [], vs, f, w, h, e => by cases e
  | (k, x) :: r, vs, f, w, ⟨v, fs', q, s, t⟩, e => by
    subst q
    by_cases hk : f = k
    · subst hk
      simp only [List.lookup, beq_self_eq_true, Option.some.injEq] at e
      subst e
      exact ⟨v, by simp [List.lookup], s⟩
    · have hb : (f == k) = false := by simpa using hk
      have hb2 : (Str.ofString f == Str.ofString k) = false := by
        simp only [beq_eq_false_iff_ne, ne_eq]
        exact fun z => hk (ofString_inj z)
      simp only [List.lookup, hb] at e
      obtain ⟨y, h1, h2⟩ := RFs.lookup t e
      exact ⟨y, by simp only [List.lookup, hb2]; exact h1, h2⟩
theorem RFs.none : ∀ {fs : List (String × W)} {vs : List (Str × V)} {f : String}, RFs g la H fs vs → fs.lookup f = none → vs.lookup (Str.ofString f) = none
  | [], vs, f, h, e => by have h : vs = [] := h; rw [h]; rfl
  | (k, x) :: r, vs, f, ⟨v, fs', q, s, t⟩, e => by
    subst q
    by_cases hk : f = k
    · subst hk
      simp only [List.lookup, beq_self_eq_true] at e
      cases e
    · have hb : (f == k) = false := by simpa using hk
      have hb2 : (Str.ofString f == Str.ofString k) = false := by
        simp only [beq_eq_false_iff_ne, ne_eq]
        exact fun z => hk (ofString_inj z)
      simp only [List.lookup, hb] at e
      simp only [List.lookup, hb2]
      exact RFs.none t e
theorem RFs.length : ∀ {fs : List (String × W)} {vs : List (Str × V)}, RFs g la H fs vs → vs.length = fs.length
  | [], vs, h => by have h : vs = [] := h; rw [h]; rfl
  | (k, x) :: r, vs, ⟨v, fs', q, s, t⟩ => by subst q; simp [RFs.length t]
end
/-- a field is stored -/
def putW (f : String) (w : W) : List (String × W) → List (String × W)
  | [] => [(f, w)]
  | (k, x) :: r => if k = f then (f, w) :: r else (k, x) :: putW f w r
theorem RFs.put {g : Glo} {la : Lay} {H : Hp} {f : String} {w : W} {v : V} (r : RW g la H w v) : ∀ {fs : List (String × W)} {vs : List (Str × V)}, RFs g la H fs vs → RFs g la H (putW f w fs) (putF (Str.ofString f) v vs)
  | [], vs, h => by have h : vs = [] := h; subst h; exact ⟨v, [], rfl, r, rfl⟩
  | (k, x) :: l, vs, ⟨y, fs', q, s, t⟩ => by
    subst q
    by_cases hk : k = f
    · subst hk
      simp only [putW, putF, if_pos]
      exact ⟨v, fs', rfl, r, t⟩
    · have hk2 : ¬ Str.ofString k = Str.ofString f := fun z => hk (ofString_inj z)
      simp only [putW, putF, if_neg hk, if_neg hk2]
      exact ⟨y, _, rfl, s, RFs.put r t⟩
theorem putW_length (f : String) (w : W) : ∀ fs : List (String × W), (putW f w fs).length ≤ fs.length + 1
  | [] => by simp [putW]
  | (k, x) :: r => by
    unfold putW
    split
    · simp
    · have := putW_length f w r
      simp; omega
end Hb

end

section
set_option Elab.async false
set_option linter.all false
set_option maxRecDepth 100000
set_option maxHeartbeats 4000000
/-! Hb1: the judgements; names, constants, operators, tests, displays. -/
namespace Hb
open PySem PySem.Spec PyProof.Rows L2

/-! ### a def's running body -/
/-- the def's entry -/
structure Base where
  la : Lay
  H : Hp
/-- an exception's fields -/
def RX (g : Glo) (la : Lay) (H : Hp) (fs : List (String × W)) (d : Option Addr) : Prop :=
  (fs = [] ∧ d = none) ∨ (fs ≠ [] ∧ ∃ a fvs, d = some a ∧ H a = some (.xd fvs) ∧ RFs g la H fs fvs)
theorem RX.ext {g : Glo} {la la' : Lay} {H H' : Hp} {st : Store} {fs : List (String × W)} {d : Option Addr} (rs : RS g la st H) (e : Ext la H la' H') (r : RX g la H fs d) : RX g la' H' fs d := by
  rcases r with r | ⟨n, a, fvs, h1, h2, r⟩
  · exact .inl r
  · obtain ⟨m1, m2⟩ := rs.not_of h2 (fun z => z)
    exact .inr ⟨n, a, fvs, h1, e.keep _ _ h2 m1 m2, r.ext rs e⟩
structure Rel (g : Glo) (B : Base) (env : Env) (σ : L2.St) (la : Lay) (st : Store) (H : Hp) : Prop where
  rs : RS g la st H
  len : env.length = σ.length
  val : ∀ (i : Nat) (w : W), env[i]? = some (.v w) → ∃ v, σ[i]? = some (some v) ∧ RW g la H w v
  lst : ∀ (i : Nat) (ws : List W), env[i]? = some (.l ws) → ∃ p vs, σ[i]? = some (some (.ref p)) ∧ H p = some (.lst vs) ∧ p ∈ la.lv ∧ B.H p = none ∧ vs.length ≤ sizeLine ∧ RWs g la H ws vs
  dis : ∀ (i j : Nat) (ws ws' : List W) (p : Addr), i ≠ j → env[i]? = some (.l ws) → env[j]? = some (.l ws') → σ[i]? = some (some (.ref p)) → σ[j]? ≠ some (some (.ref p))
  exc : ∀ (i c : Nat) (fs : List (String × W)), env[i]? = some (.x c fs) → ∃ a d, σ[i]? = some (some (.ref a)) ∧ g.pn a c d ∧ RX g la H fs d
  pre : B.la.io <+: la.io
  new : ∀ a, a ∈ la.io ∨ a ∈ la.lv → a ∉ B.la.io → a ∉ B.la.lv → B.H a = none
  keep : ∀ p o, B.H p = some o → p ∉ B.la.io → H p = some o
  lvs : ∀ p, p ∈ B.la.lv → p ∈ la.lv
  own : ∀ p, p ∈ B.la.lv → B.H p ≠ none
section
variable {g : Glo} {B : Base} {env : Env} {σ : L2.St} {la la' la1 : Lay} {st st' : Store} {H H' H1 : Hp}
theorem Rel.extE (R : Rel g B env σ la st H) (e : ExtE la H la' H') (rs : RS g la' st' H') : Rel g B env σ la' st' H' where
  rs := rs
  len := R.len
  val := fun i w h => by
    obtain ⟨v, q, r⟩ := R.val i w h
    exact ⟨v, q, r.ext R.rs e.ext⟩
  lst := fun i ws h => by
    obtain ⟨p, vs, q, hp, hl, hb, z, r⟩ := R.lst i ws h
    exact ⟨p, vs, q, e.keep _ _ hp (R.rs.lvo p hl).2, by rw [e.lv]; exact hl, hb, z, r.ext R.rs e.ext⟩
  dis := R.dis
  exc := fun i c fs h => by
    obtain ⟨a, d, h1, h2, h5⟩ := R.exc i c fs h
    exact ⟨a, d, h1, h2, h5.ext R.rs e.ext⟩
  pre := R.pre.trans e.pre
  new := fun a h n m => by
    by_cases q : a ∈ la.io ∨ a ∈ la.lv
    · exact R.new a q n m
    · rcases h with h | h
      · cases hb : B.H a with
        | none => rfl
        | some o =>
          have := R.keep a o hb n
          rw [e.new a h (fun z => q (.inl z))] at this; cases this
      · rw [e.lv] at h; exact absurd (.inr h) q
  keep := fun p o h n => by
    have q := R.keep p o h n
    refine e.keep p o q fun hp => ?_
    by_cases m : p ∈ B.la.lv
    · exact (R.rs.lvo p (R.lvs p m)).2 hp
    · rw [R.new p (.inl hp) n m] at h; cases h
  lvs := fun p h => by rw [e.lv]; exact R.lvs p h
  own := R.own
/-- seen from the entry -/
theorem Rel.gone (R : Rel g B env σ la st H) : ExtE B.la B.H ⟨la.io, B.la.lv⟩ H := ⟨R.pre, fun a h n => by
  by_cases m : a ∈ B.la.lv
  · exact absurd h (R.rs.lvo a (R.lvs a m)).2
  · exact R.new a (.inl h) n m, R.keep, rfl⟩
/-- what an outcome asks -/
def Post {α β : Type} (g : Glo) (Wx : WX) (la : Lay) (H : Hp) (σ : L2.St) (RR : Lay → Hp → α → β → Prop) (Q : β → Hp → Prop) : Out α → Prop
  | .ok a st' => ∀ la' H' b, ExtE la H la' H' → RS g la' st' H' → RR la' H' a b → Q b H'
  | .exc c fs st' => ∀ la' H' d, ExtE la H la' H' → RS g la' st' H' → RX g la' H' fs d → Wx (.ref (g.ca c)) d σ H'
  | .bad => False
def S {α β : Type} (g : Glo) (Wx : WX) (RR : Lay → Hp → α → β → Prop) (f : Env → Store → Out α) : L2.St → Hp → (β → Hp → Prop) → Prop :=
  fun σ H Q => ∃ B env la st, Rel g B env σ la st H ∧ Post g Wx la H σ RR Q (f env st)
theorem Post.later {α β : Type} {Wx : WX} {RR : Lay → Hp → α → β → Prop} {Q : β → Hp → Prop} {o : Out α} (p : Post g Wx la H σ RR Q o) (e : ExtE la H la1 H1) : Post g Wx la1 H1 σ RR Q o := by
  cases o with
  | ok a st' => exact fun la' H' b e' r q => p la' H' b (e.trans e') r q
  | exc c fs st' => exact fun la' H' d e' r q => p la' H' d (e.trans e') r q
  | bad => exact p
theorem Post.mono {α β : Type} {Wx : WX} {RR : Lay → Hp → α → β → Prop} {Q Q' : β → Hp → Prop} {o : Out α} (p : Post g Wx la H σ RR Q o) (h : ∀ b H', Q b H' → Q' b H') : Post g Wx la H σ RR Q' o := by
  cases o with
  | ok a st' => exact fun la' H' b e' r q => h _ _ (p la' H' b e' r q)
  | exc c fs st' => exact p
  | bad => exact p
theorem S.step {α β γ δ : Type} {Wx : WX} {RR : Lay → Hp → α → β → Prop} {RR' : Lay → Hp → γ → δ → Prop} {Q : δ → Hp → Prop} {G : β → Hp → Prop} {fa : Env → Store → Out α} {k : α → Store → Out γ}
    (R : Rel g B env σ la st H) (p : Post g Wx la H σ RR' Q ((fa env st).bind k))
    (hk : ∀ a st' la' H' b, fa env st = .ok a st' → ExtE la H la' H' → Rel g B env σ la' st' H' → RR la' H' a b → Post g Wx la' H' σ RR' Q (k a st') → G b H') : S g Wx RR fa σ H G := by
  refine ⟨B, env, la, st, R, ?_⟩
  cases e : fa env st with
  | ok a st' =>
    rw [e] at p
    exact fun la' H' b e' r q => hk a st' la' H' b e e' (R.extE e' r) q (Post.later p e')
  | exc c fs st' => rw [e] at p; exact p
  | bad => rw [e] at p; exact p
end
abbrev REq {α : Type} : Lay → Hp → α → α → Prop := fun _ _ a b => a = b
def DE (X : Cx) (g : Glo) (Wx : WX) (e : Expr) (f : FE) : Prop := PE X e (S g Wx (RWx g) f)
def DA (X : Cx) (g : Glo) (Wx : WX) (es : List Expr) (f : Env → Store → Out (List W)) : Prop := PA X es (S g Wx (RWs g) f)
def DT (X : Cx) (g : Glo) (Wx : WX) (e : Expr) (f : Env → Store → Out Bool) : Prop := PT X e (S g Wx REq f)
def DW (X : Cx) (g : Glo) (Wx : WX) (e : Expr) (f : Env → Store → Out Bool) : Prop := PW X e (S g Wx REq f)
/-- what the making of a list asks: it stands at a new place -/
def PostL (g : Glo) (Wx : WX) (la : Lay) (H : Hp) (σ : L2.St) (Q : VK) : Out (List W) → Prop
  | .ok ws st' => ∀ la' H' p vs, ExtE la H la' H' → RS g la' st' H' → H' p = none → vs.length ≤ sizeLine → RWs g la' H' ws vs → Q (.ref p) (upd H' p (.lst vs))
  | .exc c fs st' => ∀ la' H' d, ExtE la H la' H' → RS g la' st' H' → RX g la' H' fs d → Wx (.ref (g.ca c)) d σ H'
  | .bad => False
theorem PostL.later {g : Glo} {Wx : WX} {la la1 : Lay} {H H1 : Hp} {σ : L2.St} {Q : VK} {o : Out (List W)} (p : PostL g Wx la H σ Q o) (e : ExtE la H la1 H1) : PostL g Wx la1 H1 σ Q o := by
  cases o with
  | ok a st' => exact fun la' H' q vs e' r => p la' H' q vs (e.trans e') r
  | exc c fs st' => exact fun la' H' d e' r q => p la' H' d (e.trans e') r q
  | bad => exact p
def SL (g : Glo) (Wx : WX) (f : Env → Store → Out (List W)) : TE := fun σ H Q => ∃ B env la st, Rel g B env σ la st H ∧ PostL g Wx la H σ Q (f env st)
def DL (X : Cx) (g : Glo) (Wx : WX) (e : Expr) (f : Env → Store → Out (List W)) : Prop := PE X e (SL g Wx f)

theorem PE.imp {X : Cx} {e : Expr} {t t' : TE} (h : PE X e t) (i : ∀ σ H Q, t' σ H Q → t σ H Q) : PE X e t' := ⟨fun pins s σ H Q I p => h.run pins s σ H Q I (i σ H Q p)⟩
theorem PT.imp {X : Cx} {e : Expr} {t t' : TT} (h : PT X e t) (i : ∀ σ H Q, t' σ H Q → t σ H Q) : PT X e t' := ⟨fun pins s σ H Q I p => h.run pins s σ H Q I (i σ H Q p)⟩
theorem PW.imp {X : Cx} {e : Expr} {t t' : TT} (h : PW X e t) (i : ∀ σ H Q, t' σ H Q → t σ H Q) : PW X e t' := ⟨fun wh pins s σ H Q I p => h.run wh pins s σ H Q I (i σ H Q p)⟩
theorem PA.imp {X : Cx} {e : List Expr} {t t' : TA} (h : PA X e t) (i : ∀ σ H Q, t' σ H Q → t σ H Q) : PA X e t' := ⟨fun pos pins s σ H Q I p => h.run pos pins s σ H Q I (i σ H Q p)⟩
theorem PS.imp {X : Cx} {e : Stmt} {t t' : TS} (h : PS X e t) (i : ∀ D σ H, t' D σ H → t D σ H) : PS X e t' := ⟨fun pins s σ H D I p => h.run pins s σ H D I (i D σ H p)⟩
theorem PSs.imp {X : Cx} {e : List Stmt} {t t' : TS} (h : PSs X e t) (i : ∀ D σ H, t' D σ H → t D σ H) : PSs X e t' := ⟨fun pins s σ H D I p => h.run pins s σ H D I (i D σ H p)⟩
/-- one of several readings -/
theorem PE.ex {ι : Type} {X : Cx} {e : Expr} {t : ι → TE} (h : ∀ i, PE X e (t i)) : PE X e (fun σ H Q => ∃ i, t i σ H Q) := ⟨fun pins s σ H Q I ⟨i, p⟩ => (h i).run pins s σ H Q I p⟩
theorem PE.or {X : Cx} {e : Expr} {t u : TE} (h : PE X e t) (h' : PE X e u) : PE X e (fun σ H Q => t σ H Q ∨ u σ H Q) := ⟨fun pins s σ H Q I p => p.elim (h.run pins s σ H Q I) (h'.run pins s σ H Q I)⟩

section
variable {X : Cx} {g : Glo} {Wx : WX} {a b c : Expr} {fa fb fc : FE} {pos : Pos}
/-! ### names, constants -/
def eVar (i : Nat) : FE := fun env st => match env[i]? with
  | some (.v w) => .ok w st
  | some (.l ws) => .ok (.lr ws) st
  | _ => .bad
def eC (w : W) : FE := fun _ st => .ok w st
theorem de_var {i : Nat} {x : Str} (hN : X.N[i]? = some x) (hv : Vis X.env.scope x) (hd : (x == ("__debug__" : Str)) = false := by decide) (hcd : (x == ("__classdict__" : Str)) = false := by decide) : DE X g Wx (.Name x pos) (eVar i) := by
  refine PE.imp (pe_var hN hv hd hcd) fun σ H Q ⟨B, env, la, st, R, p⟩ => ?_
  unfold eVar at p
  cases e : env[i]? with
  | none => rw [e] at p; exact p.elim
  | some s =>
    rw [e] at p
    cases s with
    | no => exact p.elim
    | x c fs => exact p.elim
    | v w =>
      obtain ⟨v, q, r⟩ := R.val i w e
      exact ⟨v, q, p la H v .refl R.rs (.of r)⟩
    | l ws =>
      obtain ⟨q, vs, h1, h2, h3, _, z, r⟩ := R.lst i ws e
      exact ⟨_, h1, p la H _ .refl R.rs ⟨q, vs, rfl, h2, h3, z, r⟩⟩
/-- a constant by its value -/
theorem de_cst {e : Expr} {v : V} {w : W} (h : PE X e (tC v)) (r : ∀ la H, RW g la H w v) : DE X g Wx e (eC w) :=
  PE.imp h fun σ H Q ⟨B, env, la, st, R, p⟩ => p la H v .refl R.rs (.of (r la H))
theorem de_int {i : Int} {j : Nat} : DE X g Wx (.Constant (.int i) j pos) (eC (.int i)) := de_cst pe_int fun _ _ => by simp only [RW]
theorem de_bl {i : Bool} {j : Nat} : DE X g Wx (.Constant (.bool i) j pos) (eC (.bl i)) := de_cst pe_bl fun _ _ => by simp only [RW]
theorem de_non {j : Nat} : DE X g Wx (.Constant .none j pos) (eC .non) := de_cst pe_non fun _ _ => by simp only [RW]
theorem de_str {x : String} {j : Nat} : DE X g Wx (.Constant (.str (Str.ofString x)) j pos) (eC (.str (cs x))) := de_cst pe_str fun _ _ => by simp only [RW, ofString_cs]
/-- a module's constant -/
theorem de_glob {x : Str} {v : V} {w : W} (hg : Gl X x) (hm : ∃ u, X.mg x = some u ∧ RelV v u) (r : ∀ la H, RW g la H w v) (hd : (x == ("__debug__" : Str)) = false := by decide) : DE X g Wx (.Name x pos) (eC w) := by
  obtain ⟨u, h1, h2⟩ := hm
  exact de_cst (pe_glob hg h1 h2 hd) r

/-! ### two operands -/
def eBin (gop : W → W → Store → Out W) (fa fb : FE) : FE := fun env st => (fa env st).bind fun x st1 => (fb env st1).bind fun y st2 => gop x y st2
/-- what an operation on values asks, is what the hand layer's rule asks -/
def VO (g : Glo) (r : R2) (gop : W → W → Store → Out W) : Prop := ∀ (Wx : WX) (la : Lay) (st : Store) (H : Hp) (σ : L2.St) (Q : VK) (w1 w2 : W) (v1 v2 : V),
  RS g la st H → RWx g la H w1 v1 → RWx g la H w2 v2 → Post g Wx la H σ (RWx g) Q (gop w1 w2 st) → r v1 v2 H Q
theorem S.two {fa fb : FE} {r : R2} {gop : W → W → Store → Out W} (hg : VO g r gop) {σ : L2.St} {H : Hp} {Q : VK} (h : S g Wx (RWx g) (eBin gop fa fb) σ H Q) : tOp r (S g Wx (RWx g) fa) (S g Wx (RWx g) fb) σ H Q := by
  obtain ⟨B, env, la, st, R, p⟩ := h
  refine S.step R p fun x st1 la1 H1 v1 e1 x1 R1 r1 p1 => ?_
  refine S.step R1 p1 fun y st2 la2 H2 v2 e2 x2 R2 r2 p2 => ?_
  exact hg Wx la2 st2 H2 σ Q x y v1 v2 R2.rs (r1.extE R1.rs x2) r2 p2
theorem de_op {op : Operator} {r : R2} {gop : W → W → Store → Out W} (ho : OpR X (binaryOp op) r) (hg : VO g r gop) (ha : DE X g Wx a fa) (hb : DE X g Wx b fb) : DE X g Wx (.BinOp a op b pos) (eBin gop fa fb) :=
  PE.imp (pe_op ho ha hb) fun _ _ _ h => S.two hg h
theorem de_cmp {op : CmpOp} {r : R2} {gop : W → W → Store → Out W} (ho : OpR X (compareOp op) r) (hg : VO g r gop) (hm : behindInMarks op b = false) (ha : DE X g Wx a fa) (hb : DE X g Wx b fb) : DE X g Wx (.Compare a [op] [b] pos) (eBin gop fa fb) :=
  PE.imp (pe_cmpR ho ha hb hm) fun _ _ _ h => S.two hg h
theorem VO.or {r r' : R2} {gop gop' : W → W → Store → Out W} (h : VO g r gop) (h' : VO g r' gop') (sel : W → W → Bool) : VO g (fun x y H Q => r x y H Q ∨ r' x y H Q) (fun x y st => if sel x y then gop x y st else gop' x y st) := by
  intro Wx la st H σ Q w1 w2 v1 v2 rs r1 r2 p
  by_cases hs : sel w1 w2 = true
  · simp only [hs, if_true] at p; exact .inl (h Wx la st H σ Q w1 w2 v1 v2 rs r1 r2 p)
  · simp only [hs, if_false] at p; exact .inr (h' Wx la st H σ Q w1 w2 v1 v2 rs r1 r2 p)
/-! values of one kind -/
theorem RWx.int {la : Lay} {H : Hp} {i : Int} {v : V} (h : RWx g la H (.int i) v) : v = .int i := by simpa only [RWx, RW] using h
theorem RWx.bl {la : Lay} {H : Hp} {i : Bool} {v : V} (h : RWx g la H (.bl i) v) : v = .bl i := by simpa only [RWx, RW] using h
theorem RWx.str {la : Lay} {H : Hp} {i : List Nat} {v : V} (h : RWx g la H (.str i) v) : v = .str ⟨i.toArray⟩ := by simpa only [RWx, RW] using h
theorem RWx.non {la : Lay} {H : Hp} {v : V} (h : RWx g la H .non v) : v = .non := by simpa only [RWx, RW] using h
theorem RWx.mkI {la : Lay} {H : Hp} {i : Int} : RWx g la H (.int i) (.int i) := by simp only [RWx, RW]
theorem RWx.mkB {la : Lay} {H : Hp} {i : Bool} : RWx g la H (.bl i) (.bl i) := by simp only [RWx, RW]
theorem RWx.mkS {la : Lay} {H : Hp} {i : List Nat} : RWx g la H (.str i) (.str ⟨i.toArray⟩) := by simp only [RWx, RW]
theorem RWx.mkN {la : Lay} {H : Hp} : RWx g la H .non .non := by simp only [RWx, RW]
/-- a plain result at the same state -/
theorem Post.here {Wx : WX} {la : Lay} {st : Store} {H : Hp} {σ : L2.St} {Q : VK} {w : W} {v : V} (rs : RS g la st H) (r : RWx g la H w v) (p : Post g Wx la H σ (RWx g) Q (.ok w st)) : Q v H := p la H v .refl rs r
/-- ints in -/
def gI (C : Int → Int → Bool) (f : Int → Int → W) : W → W → Store → Out W := fun x y st => match x, y with
  | .int i, .int j => if C i j then .ok (f i j) st else .bad
  | _, _ => .bad
theorem vo_I {C : Int → Int → Bool} {CP : Int → Int → Prop} {f : Int → Int → W} {fv : Int → Int → V} (hC : ∀ i j, C i j = true → CP i j) (hf : ∀ la H i j, RWx g la H (f i j) (fv i j)) : VO g (rI CP fv) (gI C f) := by
  intro Wx la st H σ Q w1 w2 v1 v2 rs r1 r2 p
  unfold gI at p
  cases w1 <;> try exact p.elim
  cases w2 <;> try exact p.elim
  rename_i i j
  simp only at p
  by_cases c : C i j = true
  · rw [if_pos c] at p
    exact ⟨i, j, r1.int, r2.int, hC i j c, p.here rs (hf la H i j)⟩
  · rw [if_neg c] at p; exact p.elim
def gI0 (f : Int → Int → W) : W → W → Store → Out W := fun x y st => match x, y with
  | .int i, .int j => .ok (f i j) st
  | _, _ => .bad
theorem vo_I0 {f : Int → Int → W} {fv : Int → Int → V} (hf : ∀ la H i j, RWx g la H (f i j) (fv i j)) : VO g (rI0 fv) (gI0 f) := by
  intro Wx la st H σ Q w1 w2 v1 v2 rs r1 r2 p
  unfold gI0 at p
  cases w1 <;> try exact p.elim
  cases w2 <;> try exact p.elim
  rename_i i j
  exact ⟨i, j, r1.int, r2.int, p.here rs (hf la H i j)⟩
def gSub : W → W → Store → Out W := gI0 fun i j => .int (i - j)
def gMulC (i j : Int) : Bool := decide ((-(2 ^ 64) < i ∧ i < 2 ^ 64) ∨ (-(2 ^ 64) < j ∧ j < 2 ^ 64))
def gMul : W → W → Store → Out W := gI gMulC fun i j => .int (i * j)
def gDivC (i j : Int) : Bool := decide (0 < j ∧ j < 1073741824)
def gDiv : W → W → Store → Out W := gI gDivC fun i j => .int (i / j)
def gModC (i j : Int) : Bool := decide (0 < j)
def gMod : W → W → Store → Out W := gI gModC fun i j => .int (i % j)
theorem de_sub (ha : DE X g Wx a fa) (hb : DE X g Wx b fb) : DE X g Wx (.BinOp a .Sub b pos) (eBin gSub fa fb) := de_op op_sub (vo_I0 fun _ _ _ _ => .mkI) ha hb
theorem de_mul (ha : DE X g Wx a fa) (hb : DE X g Wx b fb) : DE X g Wx (.BinOp a .Mult b pos) (eBin gMul fa fb) := de_op op_mul (vo_I (CP := CMul) (fun i j h => by exact of_decide_eq_true (p := (-(2 ^ 64) < i ∧ i < 2 ^ 64) ∨ (-(2 ^ 64) < j ∧ j < 2 ^ 64)) h) fun _ _ _ _ => .mkI) ha hb
theorem de_div (ha : DE X g Wx a fa) (hb : DE X g Wx b fb) : DE X g Wx (.BinOp a .FloorDiv b pos) (eBin gDiv fa fb) := de_op op_fdiv (vo_I (CP := CDiv) (fun i j h => by exact of_decide_eq_true (p := 0 < j ∧ j < 1073741824) h) fun _ _ _ _ => .mkI) ha hb
theorem de_mod (ha : DE X g Wx a fa) (hb : DE X g Wx b fb) : DE X g Wx (.BinOp a .Mod b pos) (eBin gMod fa fb) := de_op op_mod (vo_I (fun _ _ h => of_decide_eq_true h) fun _ _ _ _ => .mkI) ha hb
/-- + of ints, of texts -/
def gAdd : W → W → Store → Out W := fun x y st => match x, y with
  | .int i, .int j => .ok (.int (i + j)) st
  | .str i, .str j => if i.length + j.length ≤ 1000000 then .ok (.str (i ++ j)) st else .bad
  | _, _ => .bad
theorem line_ge : 1000000 ≤ sizeLine := by rw [sizeLine_eq]; decide
theorem str_app (a b : List Nat) : (⟨a.toArray⟩ : Str) ++ ⟨b.toArray⟩ = ⟨(a ++ b).toArray⟩ := by
  show (⟨a.toArray ++ b.toArray⟩ : Str) = _
  simp
theorem str_len (a : List Nat) : (⟨a.toArray⟩ : Str).length = a.length := by
  show a.toArray.size = _
  simp
theorem vo_add : VO g (fun x y H Q => (rI0 fun i j => .int (i + j)) x y H Q ∨ (∃ i j, x = .str i ∧ y = .str j ∧ i.length + j.length ≤ sizeLine ∧ Q (.str (i ++ j)) H)) gAdd := by
  intro Wx la st H σ Q w1 w2 v1 v2 rs r1 r2 p
  unfold gAdd at p
  cases w1 <;> try exact p.elim
  · cases w2 <;> try exact p.elim
    exact .inl ⟨_, _, r1.int, r2.int, p.here rs .mkI⟩
  · cases w2 <;> try exact p.elim
    rename_i i j
    simp only at p
    by_cases c : i.length + j.length ≤ 1000000
    · rw [if_pos c] at p
      refine .inr ⟨_, _, r1.str, r2.str, ?_, ?_⟩
      · rw [str_len, str_len]; exact Nat.le_trans c line_ge
      · rw [str_app]; exact p.here rs .mkS
    · rw [if_neg c] at p; exact p.elim
theorem de_add (ha : DE X g Wx a fa) (hb : DE X g Wx b fb) : DE X g Wx (.BinOp a .Add b pos) (eBin gAdd fa fb) := de_op (OpR.or op_add op_add_str) vo_add ha hb
/-! comparisons of ints -/
def gLt : W → W → Store → Out W := gI0 fun i j => .bl (decide (i < j))
def gLe : W → W → Store → Out W := gI0 fun i j => .bl (decide (i ≤ j))
def gGt : W → W → Store → Out W := gI0 fun i j => .bl (decide (j < i))
def gGe : W → W → Store → Out W := gI0 fun i j => .bl (decide (j ≤ i))
theorem vo_lt : VO g (rI0 fun i j => .bl (decide (i < j))) gLt := vo_I0 fun _ _ _ _ => .mkB
theorem vo_le : VO g (rI0 fun i j => .bl (decide (i ≤ j))) gLe := vo_I0 fun _ _ _ _ => .mkB
theorem vo_gt : VO g (rI0 fun i j => .bl (decide (j < i))) gGt := vo_I0 fun _ _ _ _ => .mkB
theorem vo_ge : VO g (rI0 fun i j => .bl (decide (j ≤ i))) gGe := vo_I0 fun _ _ _ _ => .mkB
/-- is None -/
def isN : W → Bool
  | .non => true
  | _ => false
def gIsN : W → W → Store → Out W := fun x y st => match y with
  | .non => .ok (.bl (isN x)) st
  | _ => .bad
def gNotN : W → W → Store → Out W := fun x y st => match y with
  | .non => .ok (.bl (!isN x)) st
  | _ => .bad
theorem isN_eq {la : Lay} {H : Hp} {w : W} {v : V} (h : RWx g la H w v) : decide (v = .non) = isN w := by
  cases w <;> simp only [RWx, RW] at h
  · subst h; rfl
  · subst h; rfl
  · subst h; rfl
  · subst h; rfl
  · obtain ⟨_, _, rfl, _⟩ := h; rfl
  · obtain ⟨_, _, rfl⟩ := h; rfl
  · subst h; rfl
  · obtain ⟨_, _, rfl, _⟩ := h; rfl
  · obtain ⟨_, _, rfl, _⟩ := h; rfl
  · obtain ⟨_, _, rfl, _⟩ := h; rfl
theorem vo_isN : VO g (fun x y H Q => y = .non ∧ Q (.bl (decide (x = .non))) H) gIsN := by
  intro Wx la st H σ Q w1 w2 v1 v2 rs r1 r2 p
  unfold gIsN at p
  cases w2 <;> try exact p.elim
  refine ⟨r2.non, ?_⟩
  rw [isN_eq r1]
  exact p.here rs .mkB
theorem vo_notN : VO g (fun x y H Q => y = .non ∧ Q (.bl (!decide (x = .non))) H) gNotN := by
  intro Wx la st H σ Q w1 w2 v1 v2 rs r1 r2 p
  unfold gNotN at p
  cases w2 <;> try exact p.elim
  refine ⟨r2.non, ?_⟩
  rw [isN_eq r1]
  exact p.here rs .mkB
/-! ### one operand -/
def eUn (gop : W → Store → Out W) (fa : FE) : FE := fun env st => (fa env st).bind fun x st1 => gop x st1
def gNeg : W → Store → Out W := fun x st => match x with
  | .int i => .ok (.int (-i)) st
  | _ => .bad
theorem de_neg (ha : DE X g Wx a fa) : DE X g Wx (.UnaryOp .USub a pos) (eUn gNeg fa) := by
  refine PE.imp (pe_un un_neg ha) fun σ H Q ⟨B, env, la, st, R, p⟩ => ?_
  refine S.step R p fun x st1 la1 H1 v1 e1 x1 R1 r1 p1 => ?_
  cases x <;> try exact p1.elim
  exact ⟨_, r1.int, p1.here R1.rs .mkI⟩
/-! ### tests -/
def tOf (f : FE) : Env → Store → Out Bool := fun env st => (f env st).bind fun w st' => match w with
  | .bl b => .ok b st'
  | _ => .bad
theorem S.test {f : FE} {σ : L2.St} {H : Hp} {Q : Bool → Hp → Prop} (h : S g Wx REq (tOf f) σ H Q) : S g Wx (RWx g) f σ H fun x H' => ∃ k, x = .bl k ∧ Q k H' := by
  obtain ⟨B, env, la, st, R, p⟩ := h
  refine S.step R p fun x st1 la1 H1 v1 e1 x1 R1 r1 p1 => ?_
  cases x <;> try exact p1.elim
  exact ⟨_, r1.bl, p1 la1 H1 _ .refl R1.rs rfl⟩
/-- an expression that is a bool -/
theorem dt_val {e : Expr} {f : FE} (h : DE X g Wx e f) (he : ∀ whole, isTrue e X.env whole = (do let v ← whole; standAt e.pos; holding [v] (truthy v)) := by intro _; rfl) : DT X g Wx e (tOf f) :=
  PT.imp (pt_val h he) fun _ _ _ h => S.test h
theorem dt_cmp {op : CmpOp} {r : R2} {gop : W → W → Store → Out W} (ho : OpR X (compareOp op) r) (hg : VO g r gop) (hm : behindInMarks op b = false) (ha : DE X g Wx a fa) (hb : DE X g Wx b fb) : DT X g Wx (.Compare a [op] [b] pos) (tOf (eBin gop fa fb)) := by
  refine PT.imp (pt_cmpR ho ha hb hm) fun σ H Q h => ?_
  obtain ⟨B, env, la, st, R, p⟩ := h
  refine S.two hg (Q := fun x H' => ∃ k, x = .bl k ∧ Q k H') ⟨B, env, la, st, R, ?_⟩
  have q := S.test (f := eBin gop fa fb) ⟨B, env, la, st, R, p⟩
  unfold tOf at p
  cases e : eBin gop fa fb env st with
  | ok w st' =>
    rw [e] at p
    intro la' H' v e' rs r
    simp only [Out.bind] at p
    cases w <;> try exact p.elim
    exact ⟨_, r.bl, p la' H' _ e' rs rfl⟩
  | exc c fs st' => rw [e] at p; exact p
  | bad => rw [e] at p; exact p
variable {ta tb : Env → Store → Out Bool} {rest : List Expr}
def tAnd2 (ta tb : Env → Store → Out Bool) : Env → Store → Out Bool := fun env st => (ta env st).bind fun x st1 => if x then tb env st1 else .ok false st1
def tOr2 (ta tb : Env → Store → Out Bool) : Env → Store → Out Bool := fun env st => (ta env st).bind fun x st1 => if x then .ok true st1 else tb env st1
def tNot1 (ta : Env → Store → Out Bool) : Env → Store → Out Bool := fun env st => (ta env st).bind fun x st1 => .ok (!x) st1
theorem dw_and1 (ha : DT X g Wx a ta) : DW X g Wx (.BoolOp .And [a] pos) ta := pw_and1 ha
theorem dw_or1 (ha : DT X g Wx a ta) : DW X g Wx (.BoolOp .Or [a] pos) ta := pw_or1 ha
theorem dw_and (ha : DT X g Wx a ta) (hb : DW X g Wx (.BoolOp .And (b :: rest) pos) tb) : DW X g Wx (.BoolOp .And (a :: b :: rest) pos) (tAnd2 ta tb) := by
  refine PW.imp (pw_and ha hb) fun σ H Q ⟨B, env, la, st, R, p⟩ => ?_
  refine S.step R p fun x st1 la1 H1 v1 e1 x1 R1 r1 p1 => ?_
  cases r1
  cases x with
  | true => exact ⟨B, env, la1, st1, R1, p1⟩
  | false => exact p1 la1 H1 _ .refl R1.rs rfl
theorem dw_or (ha : DT X g Wx a ta) (hb : DW X g Wx (.BoolOp .Or (b :: rest) pos) tb) : DW X g Wx (.BoolOp .Or (a :: b :: rest) pos) (tOr2 ta tb) := by
  refine PW.imp (pw_or ha hb) fun σ H Q ⟨B, env, la, st, R, p⟩ => ?_
  refine S.step R p fun x st1 la1 H1 v1 e1 x1 R1 r1 p1 => ?_
  cases r1
  cases x with
  | true => exact p1 la1 H1 _ .refl R1.rs rfl
  | false => exact ⟨B, env, la1, st1, R1, p1⟩
theorem dt_w (h : DW X g Wx a ta) : DT X g Wx a ta := L2.PW.pt h
theorem dt_not (ha : DT X g Wx a ta) : DT X g Wx (.UnaryOp .Not a pos) (tNot1 ta) := by
  refine PT.imp (pt_not ha) fun σ H Q ⟨B, env, la, st, R, p⟩ => ?_
  refine S.step R p fun x st1 la1 H1 v1 e1 x1 R1 r1 p1 => ?_
  cases r1
  exact p1 la1 H1 _ .refl R1.rs rfl
/-! .. as values -/
def eAnd (fa fb : FE) : FE := fun env st => (fa env st).bind fun x st1 => match x with
  | .bl true => fb env st1
  | .bl false => .ok (.bl false) st1
  | _ => .bad
def eOr (fa fb : FE) : FE := fun env st => (fa env st).bind fun x st1 => match x with
  | .bl true => .ok (.bl true) st1
  | .bl false => fb env st1
  | _ => .bad
def eNot (fa : FE) : FE := fun env st => (fa env st).bind fun x st1 => match x with
  | .bl b => .ok (.bl (!b)) st1
  | _ => .bad
theorem de_one {op : BoolOp} (h : DE X g Wx a fa) : DE X g Wx (.BoolOp op [a] pos) fa := pe_one h
theorem de_and (ha : DE X g Wx a fa) (hb : DE X g Wx (.BoolOp .And (b :: rest) pos) fb) : DE X g Wx (.BoolOp .And (a :: b :: rest) pos) (eAnd fa fb) := by
  refine PE.imp (pe_and ha hb) fun σ H Q ⟨B, env, la, st, R, p⟩ => ?_
  refine S.step R p fun x st1 la1 H1 v1 e1 x1 R1 r1 p1 => ?_
  cases x <;> try exact p1.elim
  rename_i k
  refine ⟨k, r1.bl, ?_⟩
  cases k with
  | true => exact ⟨B, env, la1, st1, R1, p1⟩
  | false => exact p1 la1 H1 _ .refl R1.rs .mkB
theorem de_or (ha : DE X g Wx a fa) (hb : DE X g Wx (.BoolOp .Or (b :: rest) pos) fb) : DE X g Wx (.BoolOp .Or (a :: b :: rest) pos) (eOr fa fb) := by
  refine PE.imp (pe_or ha hb) fun σ H Q ⟨B, env, la, st, R, p⟩ => ?_
  refine S.step R p fun x st1 la1 H1 v1 e1 x1 R1 r1 p1 => ?_
  cases x <;> try exact p1.elim
  rename_i k
  refine ⟨k, r1.bl, ?_⟩
  cases k with
  | true => exact p1 la1 H1 _ .refl R1.rs .mkB
  | false => exact ⟨B, env, la1, st1, R1, p1⟩
theorem de_not (ha : DE X g Wx a fa) : DE X g Wx (.UnaryOp .Not a pos) (eNot fa) := by
  refine PE.imp (pe_not ha) fun σ H Q ⟨B, env, la, st, R, p⟩ => ?_
  refine S.step R p fun x st1 la1 H1 v1 e1 x1 R1 r1 p1 => ?_
  cases x <;> try exact p1.elim
  exact ⟨_, r1.bl, p1 la1 H1 _ .refl R1.rs .mkB⟩
def eIf (tc : Env → Store → Out Bool) (fa fb : FE) : FE := fun env st => (tc env st).bind fun x st1 => if x then fa env st1 else fb env st1
theorem de_if (hc : DT X g Wx c ta) (ha : DE X g Wx a fa) (hb : DE X g Wx b fb) : DE X g Wx (.IfExp c a b pos) (eIf ta fa fb) := by
  refine PE.imp (pe_ifExp hc ha hb) fun σ H Q ⟨B, env, la, st, R, p⟩ => ?_
  refine S.step R p fun x st1 la1 H1 v1 e1 x1 R1 r1 p1 => ?_
  cases r1
  cases x with
  | true => exact ⟨B, env, la1, st1, R1, p1⟩
  | false => exact ⟨B, env, la1, st1, R1, p1⟩
/-! ### argument lists, displays -/
/-- a value that may be handed on -/
def isLr : W → Bool
  | .lr _ => true
  | _ => false
def aNil : Env → Store → Out (List W) := fun _ st => .ok [] st
def aCons (fe : FE) (fr : Env → Store → Out (List W)) : Env → Store → Out (List W) := fun env st => (fe env st).bind fun w st1 => if isLr w then .bad else (fr env st1).bind fun ws st2 => .ok (w :: ws) st2
theorem RWx.rw {la : Lay} {H : Hp} {w : W} {v : V} (h : RWx g la H w v) (n : isLr w = false) : RW g la H w v := by
  cases w <;> first | exact h | cases n
theorem da_nil : DA X g Wx [] aNil := PA.imp pa_nil fun σ H Q ⟨B, env, la, st, R, p⟩ => p la H [] .refl R.rs .nil
theorem da_cons {e : Expr} {es : List Expr} {fe : FE} {fr : Env → Store → Out (List W)} (ha : DE X g Wx e fe) (hr : DA X g Wx es fr) (hs : starEach (e :: es) X.env = (false, eval e X.env) :: starEach es X.env := by rfl) : DA X g Wx (e :: es) (aCons fe fr) := by
  refine PA.imp (pa_cons ha hr hs) fun σ H Q ⟨B, env, la, st, R, p⟩ => ?_
  refine S.step R p fun x st1 la1 H1 v1 e1 x1 R1 r1 p1 => ?_
  by_cases hl : isLr x = true
  · simp only [hl, if_true] at p1; exact p1.elim
  · simp only [hl] at p1
    refine S.step R1 p1 fun xs st2 la2 H2 vs e2 x2 R2 r2 p2 => ?_
    exact p2 la2 H2 _ .refl R2.rs (.cons ((r1.rw (by simpa using hl)).ext R1.rs x2.ext) r2)
/-- a tuple -/
def eTup (fr : Env → Store → Out (List W)) : FE := fun env st => (fr env st).bind fun ws st1 => if ws.length ≤ 1000000 then .ok (.tup ws) st1 else .bad
theorem de_tup {es : List Expr} {k : Nat} {fr : Env → Store → Out (List W)} (h : DA X g Wx es fr) : DE X g Wx (.Tuple es k pos) (eTup fr) := by
  refine PE.imp (pe_tup h) fun σ H Q ⟨B, env, la, st, R, p⟩ => ?_
  refine S.step R p fun xs st1 la1 H1 vs e1 x1 R1 r1 p1 => ?_
  by_cases c : xs.length ≤ 1000000
  · rw [if_pos c] at p1
    have z : vs.length ≤ sizeLine := by rw [r1.length]; exact Nat.le_trans c line_ge
    refine ⟨z, fun q hq => ?_⟩
    refine p1 la1 _ _ (.fresh hq) (R1.rs.fresh hq) ?_
    simp only [RWx, RW]
    exact ⟨q, vs, rfl, SqT.of upd_same, z, r1.ext R1.rs (ExtE.fresh hq).ext⟩
  · rw [if_neg c] at p1; exact p1.elim
/-- a list -/
def lLst (fr : Env → Store → Out (List W)) : Env → Store → Out (List W) := fun env st => (fr env st).bind fun ws st1 => if ws.length ≤ 1000000 then .ok ws st1 else .bad
theorem SL.step {α β : Type} {B : Base} {env : Env} {σ : L2.St} {la : Lay} {st : Store} {H : Hp} {Q : VK} {RR : Lay → Hp → α → β → Prop} {G : β → Hp → Prop} {fa : Env → Store → Out α} {k : α → Store → Out (List W)}
    (R : Rel g B env σ la st H) (p : PostL g Wx la H σ Q ((fa env st).bind k))
    (hk : ∀ a st' la' H' b, fa env st = .ok a st' → ExtE la H la' H' → Rel g B env σ la' st' H' → RR la' H' a b → PostL g Wx la' H' σ Q (k a st') → G b H') : S g Wx RR fa σ H G := by
  refine ⟨B, env, la, st, R, ?_⟩
  cases e : fa env st with
  | ok a st' =>
    rw [e] at p
    exact fun la' H' b e' r q => hk a st' la' H' b e e' (R.extE e' r) q (PostL.later p e')
  | exc c fs st' => rw [e] at p; exact p
  | bad => rw [e] at p; exact p
theorem dl_lst {es : List Expr} {fr : Env → Store → Out (List W)} (h : DA X g Wx es fr) : DL X g Wx (.List es pos) (lLst fr) := by
  refine PE.imp (pe_lst h) fun σ H Q ⟨B, env, la, st, R, p⟩ => ?_
  refine SL.step R p fun xs st1 la1 H1 vs e1 x1 R1 r1 p1 => ?_
  by_cases c : xs.length ≤ 1000000
  · rw [if_pos c] at p1
    have z : vs.length ≤ sizeLine := by rw [r1.length]; exact Nat.le_trans c line_ge
    exact ⟨z, fun q hq => p1 la1 H1 q vs .refl R1.rs hq z r1⟩
  · rw [if_neg c] at p1; exact p1.elim
/-- a new list as a value: what nobody changes -/
def eIm (fl : Env → Store → Out (List W)) : FE := fun env st => (fl env st).bind fun ws st1 => .ok (.im ws) st1
theorem im_imp {fl : Env → Store → Out (List W)} {σ : L2.St} {H : Hp} {Q : VK} (q : S g Wx (RWx g) (eIm fl) σ H Q) : SL g Wx fl σ H Q := by
  obtain ⟨B, env, la, st, R, p⟩ := q
  refine ⟨B, env, la, st, R, ?_⟩
  unfold eIm at p
  cases e : fl env st with
  | ok ws st1 =>
    rw [e] at p
    intro la1 H1 q vs x1 rs h0 z r
    refine p la1 _ _ (x1.trans (.fresh h0)) (rs.fresh h0) ?_
    simp only [RWx, RW]
    exact ⟨q, vs, rfl, upd_same, (rs.new h0).1, (rs.new h0).2, z, r.ext rs (ExtE.fresh h0).ext⟩
  | exc c fs st1 => rw [e] at p; exact p
  | bad => rw [e] at p; exact p
theorem de_im {e : Expr} {fl : Env → Store → Out (List W)} (h : DL X g Wx e fl) : DE X g Wx e (eIm fl) := PE.imp h fun _ _ _ => im_imp
/-- .. as a new object of the store -/
def eAl (fl : Env → Store → Out (List W)) : FE := fun env st => (fl env st).bind fun ws st1 => .ok (.ref st1.length) (st1 ++ [.lst ws])
theorem al_imp {fl : Env → Store → Out (List W)} {σ : L2.St} {H : Hp} {Q : VK} (q : S g Wx (RWx g) (eAl fl) σ H Q) : SL g Wx fl σ H Q := by
  obtain ⟨B, env, la, st, R, p⟩ := q
  refine ⟨B, env, la, st, R, ?_⟩
  unfold eAl at p
  cases e : fl env st with
  | ok ws st1 =>
    rw [e] at p
    intro la1 H1 q vs x1 rs h0 z r
    refine p _ _ _ (x1.trans (.alloc h0)) (rs.alloc h0 ⟨vs, upd_same, z, r.ext rs (ExtE.alloc h0).ext⟩) ?_
    simp only [RWx, RW]
    refine ⟨q, ?_, rfl⟩
    rw [← rs.len, List.getElem?_concat_length]
  | exc c fs st1 => rw [e] at p; exact p
  | bad => rw [e] at p; exact p
theorem de_al {e : Expr} {fl : Env → Store → Out (List W)} (h : DL X g Wx e fl) : DE X g Wx e (eAl fl) := PE.imp h fun _ _ _ => al_imp
end
end Hb

end

section
set_option Elab.async false
set_option linter.all false
set_option maxRecDepth 100000
set_option maxHeartbeats 4000000
/-! Hb2: statements, targets, loops. -/
namespace Hb
open PySem PySem.Spec PyProof.Rows L2

section
variable {g : Glo} {B : Base} {env env' : Env} {σ σ' : L2.St} {la la' la1 : Lay} {st st' : Store} {H H' H1 : Hp}
/-! ### the relation, step by step -/
/-- a slot gets a value -/
theorem Rel.set (R : Rel g B env σ la st H) (i : Nat) {w : W} {v : V} (r : RW g la H w v) : Rel g B (env.set i (.v w)) (σ.set i (some v)) la st H where
  rs := R.rs
  len := by simp [R.len]
  val := fun j x h => by
    by_cases hj : i = j
    · subst hj
      have hl : i < env.length := by
        have := (List.getElem?_eq_some_iff.mp h).1
        simpa using this
      rw [List.getElem?_set_self hl] at h
      cases h
      exact ⟨v, List.getElem?_set_self (by rw [← R.len]; exact hl), r⟩
    · rw [List.getElem?_set_ne hj] at h
      rw [List.getElem?_set_ne hj]
      exact R.val j x h
  lst := fun j x h => by
    by_cases hj : i = j
    · subst hj
      have hl : i < env.length := by
        have := (List.getElem?_eq_some_iff.mp h).1
        simpa using this
      rw [List.getElem?_set_self hl] at h
      cases h
    · rw [List.getElem?_set_ne hj] at h
      rw [List.getElem?_set_ne hj]
      exact R.lst j x h
  dis := fun j k ws ws' p hjk h1 h2 h3 => by
    have nj : i ≠ j := fun q => by
      subst q
      have hl : i < env.length := by
        have := (List.getElem?_eq_some_iff.mp h1).1
        simpa using this
      rw [List.getElem?_set_self hl] at h1; cases h1
    have nk : i ≠ k := fun q => by
      subst q
      have hl : i < env.length := by
        have := (List.getElem?_eq_some_iff.mp h2).1
        simpa using this
      rw [List.getElem?_set_self hl] at h2; cases h2
    rw [List.getElem?_set_ne nj] at h1 h3
    rw [List.getElem?_set_ne nk] at h2 ⊢
    exact R.dis j k ws ws' p hjk h1 h2 h3
  exc := fun j c fs h => by
    by_cases hj : i = j
    · subst hj
      have hl : i < env.length := by
        have := (List.getElem?_eq_some_iff.mp h).1
        simpa using this
      rw [List.getElem?_set_self hl] at h
      cases h
    · rw [List.getElem?_set_ne hj] at h
      rw [List.getElem?_set_ne hj]
      exact R.exc j c fs h
  pre := R.pre
  new := R.new
  keep := R.keep
  lvs := R.lvs
  own := R.own
/-- a slot is forgotten -/
theorem Rel.unset (R : Rel g B env σ la st H) (i : Nat) (o : Option V) : Rel g B (env.set i .no) (σ.set i o) la st H where
  rs := R.rs
  len := by simp [R.len]
  val := fun j x h => by
    by_cases hj : i = j
    · subst hj
      have hl : i < env.length := by
        have := (List.getElem?_eq_some_iff.mp h).1
        simpa using this
      rw [List.getElem?_set_self hl] at h
      cases h
    · rw [List.getElem?_set_ne hj] at h
      rw [List.getElem?_set_ne hj]
      exact R.val j x h
  lst := fun j x h => by
    by_cases hj : i = j
    · subst hj
      have hl : i < env.length := by
        have := (List.getElem?_eq_some_iff.mp h).1
        simpa using this
      rw [List.getElem?_set_self hl] at h
      cases h
    · rw [List.getElem?_set_ne hj] at h
      rw [List.getElem?_set_ne hj]
      exact R.lst j x h
  dis := fun j k ws ws' p hjk h1 h2 h3 => by
    have nj : i ≠ j := fun q => by
      subst q
      have hl : i < env.length := by
        have := (List.getElem?_eq_some_iff.mp h1).1
        simpa using this
      rw [List.getElem?_set_self hl] at h1; cases h1
    have nk : i ≠ k := fun q => by
      subst q
      have hl : i < env.length := by
        have := (List.getElem?_eq_some_iff.mp h2).1
        simpa using this
      rw [List.getElem?_set_self hl] at h2; cases h2
    rw [List.getElem?_set_ne nj] at h1 h3
    rw [List.getElem?_set_ne nk] at h2 ⊢
    exact R.dis j k ws ws' p hjk h1 h2 h3
  exc := fun j c fs h => by
    by_cases hj : i = j
    · subst hj
      have hl : i < env.length := by
        have := (List.getElem?_eq_some_iff.mp h).1
        simpa using this
      rw [List.getElem?_set_self hl] at h
      cases h
    · rw [List.getElem?_set_ne hj] at h
      rw [List.getElem?_set_ne hj]
      exact R.exc j c fs h
  pre := R.pre
  new := R.new
  keep := R.keep
  lvs := R.lvs
  own := R.own
/-- a list of the def's own: the layout -/
theorem Ext.lv {p : Addr} {vs : List V} (h : H p = none) : Ext la H ⟨la.io, p :: la.lv⟩ (upd H p (.lst vs)) := ⟨List.prefix_refl _, fun a ha n m => by
  rcases ha with q | q
  · exact absurd q n
  · rcases List.mem_cons.mp q with q | q
    · rw [q]; exact h
    · exact absurd q m, fun q o e _ _ => by
  rw [upd_ne (ne_of_none e h)]; exact e⟩
theorem RS.lv {p : Addr} {vs : List V} (rs : RS g la st H) (h : H p = none) : RS g ⟨la.io, p :: la.lv⟩ st (upd H p (.lst vs)) := by
  refine ⟨rs.len, rs.nd, fun n c a e1 e2 => ?_, fun q hq => ?_⟩
  · refine (rs.at_ n c a e1 e2).ext rs (.lv h) (upd_ne ?_)
    rintro rfl
    exact (rs.new h).1 (List.mem_of_getElem? e2)
  · rcases List.mem_cons.mp hq with q' | q'
    · subst q'
      exact ⟨⟨vs, upd_same⟩, (rs.new h).1⟩
    · obtain ⟨⟨ws, e⟩, n⟩ := rs.lvo q q'
      exact ⟨⟨ws, by rw [upd_ne (ne_of_none e h)]; exact e⟩, n⟩
theorem Rel.isNew (R : Rel g B env σ la st H) {p : Addr} (h : H p = none) : B.H p = none := by
  cases e : B.H p with
  | none => rfl
  | some o =>
    have n : p ∉ B.la.io := fun z => (R.rs.new h).1 (R.pre.subset z)
    rw [R.keep p o e n] at h; cases h
/-- a slot becomes a list of the def's own -/
theorem Rel.setL (R : Rel g B env σ la st H) (i : Nat) {ws : List W} {vs : List V} {p : Addr} (h : H p = none) (z : vs.length ≤ sizeLine) (r : RWs g la H ws vs) :
    Rel g B (env.set i (.l ws)) (σ.set i (some (.ref p))) ⟨la.io, p :: la.lv⟩ st (upd H p (.lst vs)) where
  rs := R.rs.lv h
  len := by simp [R.len]
  val := fun j x e => by
    by_cases hj : i = j
    · subst hj
      have hl : i < env.length := by
        have := (List.getElem?_eq_some_iff.mp e).1
        simpa using this
      rw [List.getElem?_set_self hl] at e
      cases e
    · rw [List.getElem?_set_ne hj] at e
      rw [List.getElem?_set_ne hj]
      obtain ⟨v, q, r'⟩ := R.val j x e
      exact ⟨v, q, r'.ext R.rs (.lv h)⟩
  lst := fun j x e => by
    by_cases hj : i = j
    · subst hj
      have hl : i < env.length := by
        have := (List.getElem?_eq_some_iff.mp e).1
        simpa using this
      rw [List.getElem?_set_self hl] at e
      cases e
      exact ⟨p, vs, List.getElem?_set_self (by rw [← R.len]; exact hl), upd_same, List.mem_cons_self, R.isNew h, z, r.ext R.rs (.lv h)⟩
    · rw [List.getElem?_set_ne hj] at e
      rw [List.getElem?_set_ne hj]
      obtain ⟨q, us, h1, h2, h3, h4, h5, h6⟩ := R.lst j x e
      exact ⟨q, us, h1, by rw [upd_ne (ne_of_none h2 h)]; exact h2, List.mem_cons_of_mem _ h3, h4, h5, h6.ext R.rs (.lv h)⟩
  dis := fun j k us us' q hjk h1 h2 h3 => by
    by_cases nj : i = j
    · subst nj
      have hl : i < env.length := by
        have := (List.getElem?_eq_some_iff.mp h1).1
        simpa using this
      rw [List.getElem?_set_self (by rw [← R.len]; exact hl)] at h3
      cases h3
      rw [List.getElem?_set_ne hjk] at h2 ⊢
      intro h4
      obtain ⟨q', us, e1, e2, _⟩ := R.lst k us' h2
      rw [e1] at h4; cases h4
      rw [h] at e2; cases e2
    · rw [List.getElem?_set_ne nj] at h1 h3
      by_cases nk : i = k
      · subst nk
        have hl : i < env.length := by
          have := (List.getElem?_eq_some_iff.mp h2).1
          simpa using this
        rw [List.getElem?_set_self (by rw [← R.len]; exact hl)]
        intro h4
        cases h4
        obtain ⟨q', us2, e1, e2, _⟩ := R.lst j us h1
        rw [e1] at h3; cases h3
        rw [h] at e2; cases e2
      · rw [List.getElem?_set_ne nk] at h2 ⊢
        exact R.dis j k us us' q hjk h1 h2 h3
  exc := fun j c fs e => by
    by_cases hj : i = j
    · subst hj
      have hl : i < env.length := by
        have := (List.getElem?_eq_some_iff.mp e).1
        simpa using this
      rw [List.getElem?_set_self hl] at e
      cases e
    · rw [List.getElem?_set_ne hj] at e
      rw [List.getElem?_set_ne hj]
      obtain ⟨a, d, h1, h2, h5⟩ := R.exc j c fs e
      exact ⟨a, d, h1, h2, h5.ext R.rs (.lv h)⟩
  pre := R.pre
  new := fun a ha n m => by
    rcases ha with q | q
    · exact R.new a (.inl q) n m
    · rcases List.mem_cons.mp q with q | q
      · rw [q]; exact R.isNew h
      · exact R.new a (.inr q) n m
  keep := fun q o e n => by
    have w := R.keep q o e n
    rw [upd_ne (ne_of_none w h)]; exact w
  lvs := fun q hq => List.mem_cons_of_mem _ (R.lvs q hq)
  own := R.own
/-- a list of the def's own is changed -/
theorem Ext.updL {p : Addr} {o : HO} (h : p ∈ la.lv) : Ext la H la (upd H p o) := ⟨List.prefix_refl _, fun a ha n m => by
  rcases ha with q | q
  · exact absurd q n
  · exact absurd q m, fun q u e _ m => by
  have nq : q ≠ p := by rintro rfl; exact m h
  rw [upd_ne nq]; exact e⟩
theorem RS.updL {p : Addr} {vs : List V} (rs : RS g la st H) (h : p ∈ la.lv) : RS g la st (upd H p (.lst vs)) := by
  refine ⟨rs.len, rs.nd, fun n c a e1 e2 => ?_, fun q hq => ?_⟩
  · refine (rs.at_ n c a e1 e2).ext rs (.updL h) (upd_ne ?_)
    rintro rfl
    exact (rs.lvo a h).2 (List.mem_of_getElem? e2)
  · by_cases e : q = p
    · subst e
      exact ⟨⟨vs, upd_same⟩, (rs.lvo q hq).2⟩
    · obtain ⟨⟨ws, e'⟩, n⟩ := rs.lvo q hq
      exact ⟨⟨ws, by rw [upd_ne e]; exact e'⟩, n⟩
theorem Rel.updL (R : Rel g B env σ la st H) {i : Nat} {ws0 ws : List W} {vs : List V} {p : Addr} (hi : env[i]? = some (.l ws0)) (hp : σ[i]? = some (some (.ref p))) (z : vs.length ≤ sizeLine) (r : RWs g la H ws vs) :
    Rel g B (env.set i (.l ws)) σ la st (upd H p (.lst vs)) := by
  obtain ⟨p', us, q1, q2, q3, q4, _, _⟩ := R.lst i ws0 hi
  rw [hp] at q1; cases q1
  have hl : i < env.length := (List.getElem?_eq_some_iff.mp hi).1
  refine ⟨R.rs.updL q3, by simp [R.len], fun j x e => ?_, fun j x e => ?_, fun j k us us' q hjk h1 h2 h3 => ?_, fun j c fs e => ?_, R.pre, R.new, fun q o e n => ?_, R.lvs, R.own⟩
  · by_cases hj : i = j
    · subst hj
      rw [List.getElem?_set_self hl] at e; cases e
    · rw [List.getElem?_set_ne hj] at e
      obtain ⟨v, q, r'⟩ := R.val j x e
      exact ⟨v, q, r'.ext R.rs (.updL q3)⟩
  · by_cases hj : i = j
    · subst hj
      rw [List.getElem?_set_self hl] at e
      cases e
      exact ⟨p, vs, hp, upd_same, q3, q4, z, r.ext R.rs (.updL q3)⟩
    · rw [List.getElem?_set_ne hj] at e
      obtain ⟨q, us, h1, h2, h3, h4, h5, h6⟩ := R.lst j x e
      have nq : q ≠ p := by
        rintro rfl
        exact R.dis i j ws0 x q hj hi e hp h1
      exact ⟨q, us, h1, by rw [upd_ne nq]; exact h2, h3, h4, h5, h6.ext R.rs (.updL q3)⟩
  · have g1 : ∃ x, env[j]? = some (.l x) := by
      by_cases hj : i = j
      · subst hj; exact ⟨_, hi⟩
      · rw [List.getElem?_set_ne hj] at h1; exact ⟨_, h1⟩
    have g2 : ∃ x, env[k]? = some (.l x) := by
      by_cases hj : i = k
      · subst hj; exact ⟨_, hi⟩
      · rw [List.getElem?_set_ne hj] at h2; exact ⟨_, h2⟩
    obtain ⟨x, g1⟩ := g1
    obtain ⟨y, g2⟩ := g2
    exact R.dis j k x y q hjk g1 g2 h3
  · by_cases hj : i = j
    · subst hj
      rw [List.getElem?_set_self hl] at e; cases e
    · rw [List.getElem?_set_ne hj] at e
      obtain ⟨a, d, h1, h2, h5⟩ := R.exc j c fs e
      exact ⟨a, d, h1, h2, h5.ext R.rs (.updL q3)⟩
  · have w := R.keep q o e n
    have nq : q ≠ p := by
      rintro rfl
      rw [q4] at e; cases e
    rw [upd_ne nq]; exact w

/-! ### what a statement asks -/
def PostS (g : Glo) (Wx : WX) (B : Base) (la : Lay) (H : Hp) (D : Ends) : SO → Prop
  | .nx env st => ∀ σ' la' H', Ext la H la' H' → Rel g B env σ' la' st H' → D.nx σ' H'
  | .bk env st => ∀ σ' la' H', Ext la H la' H' → Rel g B env σ' la' st H' → D.bk σ' H'
  | .ct env st => ∀ σ' la' H', Ext la H la' H' → Rel g B env σ' la' st H' → D.ct σ' H'
  | .rt w st => ∀ la' H' v, ExtE B.la B.H la' H' → RS g la' st H' → RW g la' H' w v → D.rt v H'
  | .exc c fs env st => ∀ σ' la' H' d, Ext la H la' H' → Rel g B env σ' la' st H' → RX g la' H' fs d → Wx (.ref (g.ca c)) d σ' H'
  | .bad => False
def SS (g : Glo) (Wx : WX) (f : FS) : TS := fun D σ H => ∃ B env la st, Rel g B env σ la st H ∧ PostS g Wx B la H D (f env st)
theorem PostS.later {Wx : WX} {D : Ends} {o : SO} (p : PostS g Wx B la H D o) (e : Ext la H la1 H1) : PostS g Wx B la1 H1 D o := by
  cases o with
  | nx a s => exact fun σ' la' H' e' r => p σ' la' H' (e.trans e') r
  | bk a s => exact fun σ' la' H' e' r => p σ' la' H' (e.trans e') r
  | ct a s => exact fun σ' la' H' e' r => p σ' la' H' (e.trans e') r
  | rt w s => exact p
  | exc c fs a s => exact fun σ' la' H' d e' r => p σ' la' H' d (e.trans e') r
  | bad => exact p
@[reducible] def Out.bindS {α : Type} (x : Out α) (env : Env) (k : α → Store → SO) : SO := match x with
  | .ok a st => k a st
  | .exc c fs st => .exc c fs env st
  | .bad => .bad
theorem SS.step {α β : Type} {Wx : WX} {D : Ends} {RR : Lay → Hp → α → β → Prop} {G : β → Hp → Prop} {fa : Env → Store → Out α} {k : α → Store → SO}
    (R : Rel g B env σ la st H) (p : PostS g Wx B la H D ((fa env st).bindS env k))
    (hk : ∀ a st' la' H' b, ExtE la H la' H' → Rel g B env σ la' st' H' → RR la' H' a b → PostS g Wx B la' H' D (k a st') → G b H') : S g Wx RR fa σ H G := by
  refine ⟨B, env, la, st, R, ?_⟩
  cases e : fa env st with
  | ok a st' =>
    rw [e] at p
    exact fun la' H' b e' r q => hk a st' la' H' b e' (R.extE e' r) q (PostS.later p e'.ext)
  | exc c fs st' =>
    rw [e] at p
    exact fun la' H' d e' r q => p σ la' H' d e'.ext (R.extE e' r) q
  | bad => rw [e] at p; exact p
theorem SS.stepL {Wx : WX} {D : Ends} {G : V → Hp → Prop} {fa : Env → Store → Out (List W)} {k : List W → Store → SO}
    (R : Rel g B env σ la st H) (p : PostS g Wx B la H D ((fa env st).bindS env k))
    (hk : ∀ a st' la' H' q vs, ExtE la H la' H' → Rel g B env σ la' st' H' → H' q = none → vs.length ≤ sizeLine → RWs g la' H' a vs → PostS g Wx B la' H' D (k a st') → G (.ref q) (upd H' q (.lst vs))) : SL g Wx fa σ H G := by
  refine ⟨B, env, la, st, R, ?_⟩
  cases e : fa env st with
  | ok a st' =>
    rw [e] at p
    exact fun la' H' q vs e' r h0 z rw' => hk a st' la' H' q vs e' (R.extE e' r) h0 z rw' (PostS.later p e'.ext)
  | exc c fs st' =>
    rw [e] at p
    exact fun la' H' d e' r q => p σ la' H' d e'.ext (R.extE e' r) q
  | bad => rw [e] at p; exact p
end
def DS (X : Cx) (g : Glo) (Wx : WX) (st : Stmt) (f : FS) : Prop := PS X st (SS g Wx f)
def DSs (X : Cx) (g : Glo) (Wx : WX) (st : List Stmt) (f : FS) : Prop := PSs X st (SS g Wx f)

section
variable {X : Cx} {g : Glo} {Wx : WX} {a b c e : Expr} {fa fb fc fe : FE} {pos : Pos} {sm : Stmt} {rest : List Stmt} {f f1 f2 : FS}
/-! ### blocks -/
def bNil : FS := fun env st => .nx env st
def bSeq (f1 f2 : FS) : FS := fun env st => match f1 env st with
  | .nx env' st' => f2 env' st'
  | o => o
theorem dss_nil : DSs X g Wx [] bNil := PSs.imp pss_nil fun D σ H ⟨B, env, la, st, R, p⟩ => p σ la H .refl R
theorem dss_one (h : DS X g Wx sm f) : DSs X g Wx [sm] f := pss_one h
theorem dss_cons (h1 : DS X g Wx sm f1) (h2 : DSs X g Wx rest f2) : DSs X g Wx (sm :: rest) (bSeq f1 f2) := by
  refine PSs.imp (pss_cons h1 h2) fun D σ H ⟨B, env, la, st, R, p⟩ => ⟨B, env, la, st, R, ?_⟩
  unfold bSeq at p
  cases e : f1 env st with
  | nx env' st' =>
    rw [e] at p
    exact fun σ' la' H' x R' => ⟨B, env', la', st', R', PostS.later p x⟩
  | bk a s => rw [e] at p; exact p
  | ct a s => rw [e] at p; exact p
  | rt w s => rw [e] at p; exact p
  | exc c fs a s => rw [e] at p; exact p
  | bad => rw [e] at p; exact p
theorem ds_pass : DS X g Wx (.Pass pos) bNil := PS.imp ps_pass fun D σ H ⟨B, env, la, st, R, p⟩ => p σ la H .refl R
def sBrk : FS := fun env st => .bk env st
def sCnt : FS := fun env st => .ct env st
theorem ds_break : DS X g Wx (.Break pos) sBrk := PS.imp ps_break fun D σ H ⟨B, env, la, st, R, p⟩ => p σ la H .refl R
theorem ds_continue : DS X g Wx (.Continue pos) sCnt := PS.imp ps_continue fun D σ H ⟨B, env, la, st, R, p⟩ => p σ la H .refl R
/-- a statement that is never reached -/
def sNever : FS := fun _ _ => .bad
theorem ds_never : DS X g Wx sm sNever := PS.imp ps_never fun D σ H ⟨B, env, la, st, R, p⟩ => p
theorem dss_never {sms : List Stmt} : DSs X g Wx sms sNever := PSs.imp pss_never fun D σ H ⟨B, env, la, st, R, p⟩ => p
def sIf (tc : Env → Store → Out Bool) (f1 f2 : FS) : FS := fun env st => (tc env st).bindS env fun k st1 => if k then f1 env st1 else f2 env st1
theorem ds_if {tc : Env → Store → Out Bool} {s1 s2 : List Stmt} (hc : DT X g Wx c tc) (h1 : DSs X g Wx s1 f1) (h2 : DSs X g Wx s2 f2) : DS X g Wx (.If c s1 s2 pos) (sIf tc f1 f2) := by
  refine PS.imp (ps_if hc h1 h2) fun D σ H ⟨B, env, la, st, R, p⟩ => ?_
  refine SS.step R p fun k st1 la1 H1 b x1 R1 r1 p1 => ?_
  cases r1
  cases k with
  | true => exact ⟨B, env, la1, st1, R1, p1⟩
  | false => exact ⟨B, env, la1, st1, R1, p1⟩
/-! ### return -/
def sRet (fe : FE) : FS := fun env st => (fe env st).bindS env fun w st1 => if isLr w then .bad else .rt w st1
def sRetN : FS := fun _ st => .rt .non st
theorem RS.back {la : Lay} {st : Store} {H : Hp} {lv : List Addr} (rs : RS g la st H) (h : ∀ p, p ∈ lv → p ∈ la.lv) : RS g ⟨la.io, lv⟩ st H := by
  obtain ⟨io, lv0⟩ := la
  refine ⟨rs.len, rs.nd, fun n c a e1 e2 => ?_, fun q hq => rs.lvo q (h q hq)⟩
  have q := rs.at_ n c a e1 e2
  cases c with
  | lst ws => obtain ⟨vs, q, z, r⟩ := q; exact ⟨vs, q, z, r.lvs h⟩
  | ins c fs =>
    obtain ⟨dx, fvs, q, r⟩ := q
    refine ⟨dx, fvs, q, ?_⟩
    clear q e1
    induction fs generalizing fvs with
    | nil => exact r
    | cons x l ih =>
      obtain ⟨f, w⟩ := x
      obtain ⟨v, fs', q, s, t⟩ := r
      exact ⟨v, fs', q, s.lvs h, ih _ t⟩
  | dic kvs =>
    obtain ⟨k, q, r⟩ := q
    refine ⟨k, q, ?_⟩
    clear q e1
    induction kvs generalizing k with
    | nil => exact r
    | cons x l ih =>
      obtain ⟨f, w⟩ := x
      obtain ⟨y, v, fs', q, z, s, t⟩ := r
      exact ⟨y, v, fs', q, z, s.lvs h, ih _ t⟩
theorem RW.back {la : Lay} {H : Hp} {lv : List Addr} {w : W} {v : V} (r : RW g la H w v) (h : ∀ p, p ∈ lv → p ∈ la.lv) : RW g ⟨la.io, lv⟩ H w v := by
  obtain ⟨io, lv0⟩ := la
  exact r.lvs h
theorem ds_ret (he : DE X g Wx e fe) : DS X g Wx (.Return (some e) pos) (sRet fe) := by
  refine PS.imp (ps_ret he) fun D σ H ⟨B, env, la, st, R, p⟩ => ?_
  refine SS.step R p fun w st1 la1 H1 v x1 R1 r1 p1 => ?_
  by_cases hl : isLr w = true
  · simp only [hl, if_true] at p1; exact p1.elim
  · simp only [hl] at p1
    exact p1 ⟨la1.io, B.la.lv⟩ H1 v R1.gone (R1.rs.back R1.lvs) ((r1.rw (by simpa using hl)).back R1.lvs)
theorem ds_retN : DS X g Wx (.Return none pos) sRetN := PS.imp ps_retN fun D σ H ⟨B, env, la, st, R, p⟩ => p ⟨la.io, B.la.lv⟩ H .non R.gone (R.rs.back R.lvs) (by simp only [RW])
/-- a new list is returned: an object of the store -/
def sRetL (fl : Env → Store → Out (List W)) : FS := fun env st => (fl env st).bindS env fun ws st1 => .rt (.ref st1.length) (st1 ++ [.lst ws])
theorem ds_retL {fl : Env → Store → Out (List W)} (he : DL X g Wx e fl) : DS X g Wx (.Return (some e) pos) (sRetL fl) := by
  refine PS.imp (ps_ret he) fun D σ H ⟨B, env, la, st, R, p⟩ => ?_
  refine SS.stepL R p fun ws st1 la1 H1 q vs x1 R1 h0 z r1 p1 => ?_
  have R2 := R1.extE (.alloc h0) (R1.rs.alloc (c := .lst ws) (o := .lst vs) h0 ⟨vs, upd_same, z, r1.ext R1.rs (ExtE.alloc h0).ext⟩)
  refine p1 _ _ _ R2.gone (R2.rs.back R2.lvs) ?_
  simp only [RW]
  refine ⟨q, ?_, rfl⟩
  rw [← R1.rs.len, List.getElem?_concat_length]
/-- a list of the def's own is returned: it becomes an object of the store -/
def sRetV (i : Nat) : FS := fun env st => match env[i]? with
  | some (.l ws) => .rt (.ref st.length) (st ++ [.lst ws])
  | some (.v w) => .rt w st
  | _ => .bad
mutual
theorem RW.prom {io lv lv' : List Addr} {p : Addr} {H : Hp} (hp : p ∈ lv) (hs : ∀ q, q ∈ lv' → q ∈ lv) : ∀ {w : W} {v : V}, RW g ⟨io, lv⟩ H w v → RW g ⟨io ++ [p], lv'⟩ H w v
  | .non, v, h => by simp only [RW] at *; exact h
  | .bl b, v, h => by simp only [RW] at *; exact h
  | .int i, v, h => by simp only [RW] at *; exact h
  | .str l, v, h => by simp only [RW] at *; exact h
  | .cl c, v, h => by simp only [RW] at *; exact h
  | .lr ws, v, h => by simp only [RW] at h
  | .ref n, v, h => by
    simp only [RW] at *
    obtain ⟨a, h, q⟩ := h
    exact ⟨a, by rw [List.getElem?_append_left (List.getElem?_eq_some_iff.mp h).1]; exact h, q⟩
  | .tup ws, v, h => by
    simp only [RW] at *
    obtain ⟨a, vs, q, s, z, r⟩ := h
    exact ⟨a, vs, q, s, z, RWs.prom hp hs r⟩
  | .im ws, v, h => by
    simp only [RW] at *
    obtain ⟨q, vs, e, s, n, m, z, r⟩ := h
    refine ⟨q, vs, e, s, fun x => ?_, fun x => m (hs _ x), z, RWs.prom hp hs r⟩
    rcases List.mem_append.mp x with x | x
    · exact n x
    · rw [List.mem_singleton.mp x] at m; exact m hp
  | .sc ws, v, h => by
    simp only [RW] at *
    obtain ⟨a, vs, q, s, z, r⟩ := h
    exact ⟨a, vs, q, s, z, RWs.prom hp hs r⟩
theorem RWs.prom {io lv lv' : List Addr} {p : Addr} {H : Hp} (hp : p ∈ lv) (hs : ∀ q, q ∈ lv' → q ∈ lv) : ∀ {ws : List W} {vs : List V}, RWs g ⟨io, lv⟩ H ws vs → RWs g ⟨io ++ [p], lv'⟩ H ws vs
  | [], vs, h => by simp only [RWs] at *; exact h
  | w :: ws, vs, h => by
    simp only [RWs] at *
    obtain ⟨v, vs', q, r, s⟩ := h
    exact ⟨v, vs', q, RW.prom hp hs r, RWs.prom hp hs s⟩
end
theorem RFs.prom {io lv lv' : List Addr} {p : Addr} {H : Hp} (hp : p ∈ lv) (hs : ∀ q, q ∈ lv' → q ∈ lv) : ∀ {fs : List (String × W)} {vs : List (Str × V)}, RFs g ⟨io, lv⟩ H fs vs → RFs g ⟨io ++ [p], lv'⟩ H fs vs
  | [], vs, h => h
  | (f, w) :: r, vs, ⟨v, fs', q, s, t⟩ => ⟨v, fs', q, s.prom hp hs, RFs.prom hp hs t⟩
theorem RKs.prom {io lv lv' : List Addr} {p : Addr} {H : Hp} (hp : p ∈ lv) (hs : ∀ q, q ∈ lv' → q ∈ lv) : ∀ {fs : List (W × W)} {vs : List (Key × V)}, RKs g ⟨io, lv⟩ H fs vs → RKs g ⟨io ++ [p], lv'⟩ H fs vs
  | [], vs, h => h
  | (f, w) :: r, vs, ⟨x, v, fs', q, k, s, t⟩ => ⟨x, v, fs', q, k, s.prom hp hs, RKs.prom hp hs t⟩
/-- a list of the def's own becomes an object of the store -/
theorem RS.prom {la : Lay} {st : Store} {H : Hp} {p : Addr} {lv' : List Addr} {ws : List W} {vs : List V} (rs : RS g la st H) (hp : p ∈ la.lv) (hn : p ∉ lv') (hs : ∀ q, q ∈ lv' → q ∈ la.lv) (e : H p = some (.lst vs)) (z : vs.length ≤ sizeLine) (r : RWs g la H ws vs) :
    RS g ⟨la.io ++ [p], lv'⟩ (st ++ [.lst ws]) H := by
  obtain ⟨io, lv⟩ := la
  have np := (rs.lvo p hp).2
  refine ⟨by simpa using rs.len, ?_, fun k c' a e1 e2 => ?_, fun q hq => ?_⟩
  · rw [List.nodup_append]
    refine ⟨rs.nd, by simp, fun a ha b hb => ?_⟩
    rw [List.mem_singleton.mp hb]
    rintro rfl; exact np ha
  · simp only at e2
    by_cases hk : k < io.length
    · have hk2 : k < st.length := by rw [← rs.len]; exact hk
      rw [List.getElem?_append_left hk2] at e1
      rw [List.getElem?_append_left hk] at e2
      have q := rs.at_ k c' a e1 e2
      cases c' with
      | lst ws => obtain ⟨vs, q, z, r⟩ := q; exact ⟨vs, q, z, r.prom hp hs⟩
      | ins c fs => obtain ⟨dx, fvs, q, r⟩ := q; exact ⟨dx, fvs, q, r.prom hp hs⟩
      | dic kvs => obtain ⟨k, q, r⟩ := q; exact ⟨k, q, r.prom hp hs⟩
    · have hz : k = io.length := by
        have := (List.getElem?_eq_some_iff.mp e2).1
        simp at this; omega
      subst hz
      have hl : io.length = st.length := rs.len
      rw [hl, List.getElem?_concat_length] at e1
      rw [List.getElem?_concat_length] at e2
      cases e1; cases e2
      exact ⟨vs, e, z, r.prom hp hs⟩
  · obtain ⟨e, k⟩ := rs.lvo q (hs q hq)
    refine ⟨e, fun w => ?_⟩
    rcases List.mem_append.mp w with w | w
    · exact k w
    · rw [List.mem_singleton.mp w] at hq; exact hn hq
theorem ds_retV {i : Nat} {x : Str} {p' : Pos} (hN : X.N[i]? = some x) (hv : Vis X.env.scope x) (hd : (x == ("__debug__" : Str)) = false := by decide) (hcd : (x == ("__classdict__" : Str)) = false := by decide) : DS X g Wx (.Return (some (.Name x p')) pos) (sRetV i) := by
  refine PS.imp (ps_ret (pe_var hN hv hd hcd)) fun D σ H ⟨B, env, la, st, R, p⟩ => ?_
  unfold sRetV at p
  cases e : env[i]? with
  | none => rw [e] at p; exact p.elim
  | some s =>
    rw [e] at p
    cases s with
    | no => exact p.elim
    | x c fs => exact p.elim
    | v w =>
      obtain ⟨v, q, r⟩ := R.val i w e
      exact ⟨v, q, p ⟨la.io, B.la.lv⟩ H v R.gone (R.rs.back R.lvs) (r.back R.lvs)⟩
    | l ws =>
      obtain ⟨q, vs, h1, h2, h3, h4, z, r⟩ := R.lst i ws e
      refine ⟨_, h1, ?_⟩
      have nio : q ∉ B.la.io := fun h => (R.rs.lvo q h3).2 (R.pre.subset h)
      by_cases nlv : q ∈ B.la.lv
      · exact absurd h4 (R.own q nlv)
      · refine p ⟨la.io ++ [q], B.la.lv⟩ H _ ⟨R.pre.trans (List.prefix_append _ _), fun a ha n => ?_, R.keep, rfl⟩ (R.rs.prom h3 nlv R.lvs h2 z r) ?_
        · rcases List.mem_append.mp ha with ha | ha
          · exact R.gone.new a ha n
          · rw [List.mem_singleton.mp ha]; exact h4
        · simp only [RW]
          refine ⟨q, ?_, rfl⟩
          rw [← R.rs.len, List.getElem?_concat_length]
/-- .. it becomes a value that nobody changes -/
def sRetO (i : Nat) : FS := fun env st => match env[i]? with
  | some (.l ws) => .rt (.im ws) st
  | some (.v w) => .rt w st
  | _ => .bad
theorem ds_retO {i : Nat} {x : Str} {p' : Pos} (hN : X.N[i]? = some x) (hv : Vis X.env.scope x) (hd : (x == ("__debug__" : Str)) = false := by decide) (hcd : (x == ("__classdict__" : Str)) = false := by decide) : DS X g Wx (.Return (some (.Name x p')) pos) (sRetO i) := by
  refine PS.imp (ps_ret (pe_var hN hv hd hcd)) fun D σ H ⟨B, env, la, st, R, p⟩ => ?_
  unfold sRetO at p
  cases e : env[i]? with
  | none => rw [e] at p; exact p.elim
  | some s =>
    rw [e] at p
    cases s with
    | no => exact p.elim
    | x c fs => exact p.elim
    | v w =>
      obtain ⟨v, q, r⟩ := R.val i w e
      exact ⟨v, q, p ⟨la.io, B.la.lv⟩ H v R.gone (R.rs.back R.lvs) (r.back R.lvs)⟩
    | l ws =>
      obtain ⟨q, vs, h1, h2, h3, h4, z, r⟩ := R.lst i ws e
      refine ⟨_, h1, p ⟨la.io, B.la.lv⟩ H _ R.gone (R.rs.back R.lvs) ?_⟩
      simp only [RW]
      obtain ⟨io, lv⟩ := la
      exact ⟨q, vs, rfl, h2, (R.rs.lvo q h3).2, fun nlv => R.own q nlv h4, z, r.lvs R.lvs⟩
/-! ### expression statements, assignments -/
def sExp (fe : FE) : FS := fun env st => (fe env st).bindS env fun _ st1 => .nx env st1
theorem ds_exp (he : DE X g Wx e fe) (hs : swapsWith e none pos.line X.env = pure false := by rfl) : DS X g Wx (.Expr e pos) (sExp fe) := by
  refine PS.imp (ps_expr he hs) fun D σ H ⟨B, env, la, st, R, p⟩ => ?_
  refine SS.step R p fun w st1 la1 H1 v x1 R1 r1 p1 => ?_
  exact p1 σ la1 H1 .refl R1
theorem ds_doc {x : Str} {j : Nat} {p' : Pos} : DS X g Wx (.Expr (.Constant (.str x) j p') pos) bNil := PS.imp ps_doc fun D σ H ⟨B, env, la, st, R, p⟩ => p σ la H .refl R
def sSet (i : Nat) (fe : FE) : FS := fun env st => (fe env st).bindS env fun w st1 => if isLr w then .bad else .nx (env.set i (.v w)) st1
theorem ds_set_of {i : Nat} {sm : Stmt} {te : TE} (h : PS X sm (tAsg te (gName i))) (im : ∀ σ H Q, S g Wx (RWx g) fe σ H Q → te σ H Q) : DS X g Wx sm (sSet i fe) := by
  refine PS.imp h fun D σ H ⟨B, env, la, st, R, p⟩ => im _ _ _ ?_
  refine SS.step R p fun w st1 la1 H1 v x1 R1 r1 p1 => ?_
  by_cases hl : isLr w = true
  · simp only [hl, if_true] at p1; exact p1.elim
  · simp only [hl] at p1
    exact p1 _ la1 H1 .refl (R1.set i (r1.rw (by simpa using hl)))
theorem ds_set {i : Nat} {x : Str} {p' : Pos} (hN : X.N.Nodup) (hi : X.N[i]? = some x) (hx : Loc X.env.scope x) (he : DE X g Wx e fe) (hs : swapsWith e (some (.Name x p')) pos.line X.env = pure false := by rfl) (hf : X.fn x = true ∨ X.env.scope.names.lookup x = some .local := by first | exact .inl rfl | exact .inr rfl | assumption) :
    DS X g Wx (.Assign [.Name x p'] e pos) (sSet i fe) := ds_set_of (ps_set hN hi hx he hs hf) fun _ _ _ q => q
/-- a new list of the def's own -/
def sSetL (i : Nat) (fl : Env → Store → Out (List W)) : FS := fun env st => (fl env st).bindS env fun ws st1 => .nx (env.set i (.l ws)) st1
theorem ds_setL_of {i : Nat} {sm : Stmt} {te : TE} {fl : Env → Store → Out (List W)} (h : PS X sm (tAsg te (gName i))) (im : ∀ σ H Q, SL g Wx fl σ H Q → te σ H Q) : DS X g Wx sm (sSetL i fl) := by
  refine PS.imp h fun D σ H ⟨B, env, la, st, R, p⟩ => im _ _ _ ?_
  refine SS.stepL R p fun ws st1 la1 H1 q vs x1 R1 h0 z r1 p1 => ?_
  exact p1 _ _ _ (.lv h0) (R1.setL i h0 z r1)
theorem ds_setL {i : Nat} {x : Str} {p' : Pos} {fl : Env → Store → Out (List W)} (hN : X.N.Nodup) (hi : X.N[i]? = some x) (hx : Loc X.env.scope x) (he : DL X g Wx e fl) (hs : swapsWith e (some (.Name x p')) pos.line X.env = pure false := by rfl) (hf : X.fn x = true ∨ X.env.scope.names.lookup x = some .local := by first | exact .inl rfl | exact .inr rfl | assumption) :
    DS X g Wx (.Assign [.Name x p'] e pos) (sSetL i fl) := ds_setL_of (ps_set hN hi hx he hs hf) fun _ _ _ q => q
/-! ### targets -/
theorem wipe_set {σ : L2.St} {i : Nat} {o : Option V} : ∀ {vs : List Nat}, wipe (σ.set i o) vs = if i ∈ vs then wipe σ vs else (wipe σ vs).set i o
  | [] => by simp [wipe]
  | v :: vs => by
    unfold wipe
    rw [wipe_set]
    by_cases h : i ∈ vs
    · simp [h]
    · rw [if_neg h]
      by_cases hv : i = v
      · subst hv; simp
      · rw [if_neg (by simp [h, hv]), List.set_comm _ _ hv]
/-- what a target does with a value; vs: the slots that it may change -/
abbrev FG := W → Env → Store → SO
def SG (g : Glo) (vs : List Nat) (f : FG) : TG := fun v σ H Q => ∃ B env la st w, Rel g B env σ la st H ∧ RW g la H w v ∧ (match f w env st with
  | .nx env' st' => ∀ σ' la' H', ExtE la H la' H' → Rel g B env' σ' la' st' H' → wipe σ' vs = wipe σ vs → Q σ' H'
  | _ => False)
def DG (X : Cx) (g : Glo) (vs : List Nat) (tg : Expr) (f : FG) : Prop := PG X tg (SG g vs f)
theorem PG.imp {t t' : TG} (h : PG X e t) (i : ∀ v σ H Q, t' v σ H Q → t v σ H Q) : PG X e t' := ⟨fun pins s σ H v u Q I r p => h.run pins s σ H v u Q I r (i v σ H Q p)⟩
theorem PG.or {t u : TG} (h : PG X e t) (h' : PG X e u) : PG X e (fun v σ H Q => t v σ H Q ∨ u v σ H Q) := ⟨fun pins s σ H v w Q I r p => p.elim (h.run pins s σ H v w Q I r) (h'.run pins s σ H v w Q I r)⟩
variable {vs : List Nat}
def gN (i : Nat) : FG := fun w env st => .nx (env.set i (.v w)) st
theorem dg_name {i : Nat} {x : Str} (hN : X.N.Nodup) (hi : X.N[i]? = some x) (hx : Loc X.env.scope x) (hv : i ∈ vs) (hf : X.fn x = true ∨ X.env.scope.names.lookup x = some .local := by first | exact .inl rfl | exact .inr rfl | assumption) : DG X g vs (.Name x pos) (gN i) :=
  PG.imp (pg_name hN hi hx hf) fun v σ H Q ⟨B, env, la, st, w, R, r, p⟩ => p _ la H .refl (R.set i r) (by rw [wipe_set, if_pos hv])
/-- several targets -/
def SGs (g : Glo) (vs : List Nat) (f : List W → Env → Store → SO) : TGs := fun us σ H Q => ∃ B env la st ws, Rel g B env σ la st H ∧ RWs g la H ws us ∧ (match f ws env st with
  | .nx env' st' => ∀ σ' la' H', ExtE la H la' H' → Rel g B env' σ' la' st' H' → wipe σ' vs = wipe σ vs → Q σ' H'
  | _ => False)
def DGs (X : Cx) (g : Glo) (vs : List Nat) (tgs : List Expr) (f : List W → Env → Store → SO) : Prop := PGs X tgs (SGs g vs f)
def gsNil : List W → Env → Store → SO := fun ws env st => match ws with
  | [] => .nx env st
  | _ => .bad
def gsCons (f : FG) (fr : List W → Env → Store → SO) : List W → Env → Store → SO := fun ws env st => match ws with
  | w :: r => (match f w env st with
    | .nx env' st' => fr r env' st'
    | _ => .bad)
  | [] => .bad
theorem PGs.imp {es : List Expr} {t t' : TGs} (h : PGs X es t) (i : ∀ v σ H Q, t' v σ H Q → t v σ H Q) : PGs X es t' := ⟨fun pins s σ H v u Q I r p => h.run pins s σ H v u Q I r (i v σ H Q p)⟩
theorem dgs_nil : DGs X g vs [] gsNil := PGs.imp pgs_nil fun us σ H Q ⟨B, env, la, st, ws, R, r, p⟩ => by
  cases ws with
  | nil =>
    simp only [RWs] at r
    exact ⟨r, p σ la H .refl R rfl⟩
  | cons => exact p.elim
theorem dgs_cons {es : List Expr} {f : FG} {fr : List W → Env → Store → SO} (h1 : DG X g vs e f) (h2 : DGs X g vs es fr) (hs : (assignEach (e :: es) X.env).map (·.2) = assign e X.env :: (assignEach es X.env).map (·.2) := by rfl) : DGs X g vs (e :: es) (gsCons f fr) := by
  refine PGs.imp (pgs_cons h1 h2 hs) fun us σ H Q ⟨B, env, la, st, ws, R, r, p⟩ => ?_
  cases ws with
  | nil => exact p.elim
  | cons w ws =>
    simp only [RWs] at r
    obtain ⟨v, vs', rfl, r1, r2⟩ := r
    refine ⟨v, vs', rfl, B, env, la, st, w, R, r1, ?_⟩
    unfold gsCons at p
    simp only at p
    cases e : f w env st with
    | nx env' st' =>
      rw [e] at p
      intro σ' la' H' x R' hw
      refine ⟨B, env', la', st', ws, R', r2.ext R.rs x.ext, ?_⟩
      simp only at p
      cases e2 : fr ws env' st' with
      | nx env2 st2 =>
        rw [e2] at p
        exact fun σ2 la2 H2 x2 R2 hw2 => p σ2 la2 H2 (x.trans x2) R2 (hw2.trans hw)
      | bk a s => rw [e2] at p; exact p.elim
      | ct a s => rw [e2] at p; exact p.elim
      | rt w s => rw [e2] at p; exact p.elim
      | exc c fs a s => rw [e2] at p; exact p.elim
      | bad => rw [e2] at p; exact p.elim
    | bk a s => rw [e] at p; exact p.elim
    | ct a s => rw [e] at p; exact p.elim
    | rt w s => rw [e] at p; exact p.elim
    | exc c fs a s => rw [e] at p; exact p.elim
    | bad => rw [e] at p; exact p.elim
/-- the items of a value that is unpacked or walked -/
def seqW (st : Store) : W → Option (List W)
  | .tup ws => some ws
  | .im ws => some ws
  | .lr ws => some ws
  | .sc ws => some ws
  | .ref n => match st[n]? with
    | some (.lst ws) => some ws
    | _ => none
  | _ => none
theorem seq_of {la : Lay} {st : Store} {H : Hp} {w : W} {v : V} {ws : List W} (rs : RS g la st H) (r : RWx g la H w v) (h : seqW st w = some ws) :
    ∃ a vs, v = .ref a ∧ (SqL g.K H a vs ∨ SqT g.K H a vs) ∧ vs.length ≤ sizeLine ∧ RWs g la H ws vs := by
  cases w <;> simp only [seqW] at h <;> try cases h
  · simp only [RWx, RW] at r
    obtain ⟨a, vs, q, s, z, r⟩ := r
    exact ⟨a, vs, q, .inr s, z, r⟩
  · rename_i n
    simp only [RWx, RW] at r
    obtain ⟨a, ha, q⟩ := r
    cases e : st[n]? with
    | none => rw [e] at h; cases h
    | some c =>
      rw [e] at h
      have q2 := rs.at_ n c a e ha
      cases c with
      | lst us => cases h; obtain ⟨vs, e1, z, r⟩ := q2; exact ⟨a, vs, q, .inl (.inl (.inl e1)), z, r⟩
      | ins c fs => cases h
      | dic k => cases h
  · simp only [RWx, RW] at r
    obtain ⟨p, vs, q, e, _, _, z, r⟩ := r
    exact ⟨p, vs, q, .inl (.inl (.inl e)), z, r⟩
  · simp only [RWx] at r
    obtain ⟨p, vs, q, e, _, z, r⟩ := r
    exact ⟨p, vs, q, .inl (.inl (.inl e)), z, r⟩
  · simp only [RWx, RW] at r
    obtain ⟨p, vs, q, e, z, r⟩ := r
    exact ⟨p, vs, q, .inl e.sq, z, r⟩
def gTupW (n : Nat) (fr : List W → Env → Store → SO) : FG := fun w env st => match seqW st w with
  | some ws => if ws.length = n then fr ws env st else .bad
  | none => .bad
/-- a, b, .. = a tuple or a list of that length -/
theorem dg_tup {es : List Expr} {k n : Nat} {fr : List W → Env → Store → SO} (hK : g.K = X.K) (hc : X.calm = true) (h : DGs X g vs es fr) (hn : (assignEach es X.env).length = n := by rfl) (hst : (assignEach es X.env).findIdx? (·.1) = none := by rfl) : DG X g vs (.Tuple es k pos) (gTupW n fr) := by
  refine PG.imp (PG.or (pg_tup hc h hn hst) (pg_lst hc h hn hst)) fun v σ H Q ⟨B, env, la, st, w, R, r, p⟩ => ?_
  unfold gTupW at p
  cases e : seqW st w with
  | none => rw [e] at p; exact p.elim
  | some ws =>
    rw [e] at p
    simp only at p
    obtain ⟨a, vs, q, s, z, r2⟩ := seq_of R.rs (.of r) e
    by_cases c : ws.length = n
    · rw [if_pos c] at p
      have hl : vs.length = n := by rw [r2.length]; exact c
      rw [hK] at s
      rcases s with s | s
      · exact .inr ⟨a, vs, q, s, hl, B, env, la, st, ws, R, r2, p⟩
      · exact .inl ⟨a, vs, q, s, hl, B, env, la, st, ws, R, r2, p⟩
    · rw [if_neg c] at p; exact p.elim
def sAsg (fe : FE) (f : FG) : FS := fun env st => (fe env st).bindS env fun w st1 => if isLr w then .bad else match f w env st1 with
  | .nx env' st' => .nx env' st'
  | _ => .bad
theorem ds_asg {tg : Expr} {f : FG} (he : DE X g Wx e fe) (hg : DG X g vs tg f) (hs : swapsWithSole [tg] e pos.line X.env = pure false := by rfl) (hw : swappedStores [tg] e X.env = pure none := by rfl)
    (h1 : (assignEach [tg] X.env).map (·.2) = [assign tg X.env] := by rfl) : DS X g Wx (.Assign [tg] e pos) (sAsg fe f) := by
  refine PS.imp (ps_asg he hg hs hw h1) fun D σ H ⟨B, env, la, st, R, p⟩ => ?_
  refine SS.step R p fun w st1 la1 H1 v x1 R1 r1 p1 => ?_
  by_cases hl : isLr w = true
  · simp only [hl, if_true] at p1; exact p1.elim
  · simp only [hl] at p1
    refine ⟨B, env, la1, st1, w, R1, r1.rw (by simpa using hl), ?_⟩
    cases e : f w env st1 with
    | nx env' st' => rw [e] at p1; exact fun σ' la' H' x R' _ => p1 σ' la' H' x.ext R'
    | bk a s => rw [e] at p1; exact p1
    | ct a s => rw [e] at p1; exact p1
    | rt w s => rw [e] at p1; exact p1
    | exc c fs a s => rw [e] at p1; exact p1
    | bad => rw [e] at p1; exact p1
end
end Hb

end

section
set_option Elab.async false
set_option linter.all false
set_option maxRecDepth 100000
set_option maxHeartbeats 4000000
/-! Hb3: what a def promises; calls, methods, properties, new instances, attributes. -/
namespace Hb
open PySem PySem.Spec PyProof.Rows L2

/-- what a def's end asks of its callers -/
def PostC (g : Glo) (la : Lay) (H : Hp) (Q : VK) (E : XK) : Out W → Prop
  | .ok w st' => ∀ la' H' v, ExtE la H la' H' → RS g la' st' H' → RW g la' H' w v → Q v H'
  | .exc c fs st' => ∀ la' H' d, ExtE la H la' H' → RS g la' st' H' → RX g la' H' fs d → E (.ref (g.ca c)) d H'
  | .bad => False
/-- the promise: it does m -/
def spOf (g : Glo) (n : Nat) (m : FF) : Sp := fun vs H Q E => vs.length = n ∧ ∃ la ws st, RS g la st H ∧ RWs g la H ws vs ∧ PostC g la H Q E (m ws st)
/-- a def that may be called: its object, its parameters, its promise, its defaults -/
structure FnP (P : Program) (w : World) (K : PySem.W.Frag) (mg : Str → Option Value) (base : Heap) (g : Glo) (k : Nat) (m : FF) (dws : List W) (f : Addr) : Prop where
  ex : ∃ (fd : FuncData) (ps : List Str) (dvs : List V) (ds : List Value), FnOk P w K mg base (L2N.CX P w) k f fd ps (spOf g ps.length m) ∧ Binds K fd ps ds ∧ Vals dvs ds ∧ (∀ la H, RWs g la H dws dvs) ∧ ∀ ws st, ws.length ≠ ps.length → m ws st = .bad
abbrev Fn (X : Cx) (g : Glo) (k : Nat) (m : FF) (dws : List W) (f : Addr) : Prop := FnP X.prog X.w X.K X.mg X.base g k m dws f
/-- the def's own end told by the promise -/
theorem PostC.of {g : Glo} {Wx : WX} {la : Lay} {H : Hp} {σ : L2.St} {Q : VK} {o : Out W} (p : Post g Wx la H σ (RWx g) Q o) : PostC g la H Q (WE Wx σ) o := by
  cases o with
  | ok w st => exact fun la' H' v x r q => p la' H' v x r (.of q)
  | exc c fs st => exact p
  | bad => exact p

section
variable {X : Cx} {g : Glo} {Wx : WX} {k : Nat} {a b c e o : Expr} {es : List Expr} {fa fb fe fo : FE} {fr : Env → Store → Out (List W)} {pos p apos : Pos} {m : FF} {dws : List W} {f : Addr}
theorem RWs.app {la : Lay} {H : Hp} {ws ws' : List W} {vs vs' : List V} (h : RWs g la H ws vs) (h' : RWs g la H ws' vs') : RWs g la H (ws ++ ws') (vs ++ vs') := RWs.append h h'
/-- the call at the values -/
theorem run_call (F : Fn X g k m dws f) (hr : Room k X.A) (tk : L2N.Takes X Wx) {pins : List (Addr × Obj)} {s : Shared} {σ : L2.St} {H : Hp} {Q : VK} {us : List Value} {vs : List V} {la : Lay} {st : Store} {ws : List W} (I : Inv X pins σ H s) (r : Vals vs us)
    (rs : RS g la st H) (rw_ : RWs g la H ws vs) (p : Post g Wx la H σ (RWx g) Q (m (ws ++ dws) st)) :
    wpAny (model X.prog X.w) X.A (call (.ref f) us) (EP X pins σ Q) X.xe s := by
  obtain ⟨fd, ps, dvs, ds, F1, hb, hd, hw, ar⟩ := F.ex
  have hl : (vs ++ dvs).length = ps.length := by
    rw [List.length_append, (hw la H).length, rw_.length, ← List.length_append]
    by_cases h : (ws ++ dws).length = ps.length
    · exact h
    · rw [ar _ _ h] at p; exact p.elim
  exact run_fnSD (E := WE Wx) F1 hr hb hd (L2N.passAt tk σ) I r ⟨hl, la, ws ++ dws, st, rs, rw_.app (hw la H), .of p⟩
def eCall (m : FF) (dws : List W) (fr : Env → Store → Out (List W)) : FE := fun env st => (fr env st).bind fun ws st1 => m (ws ++ dws) st1
theorem de_call {x : Str} (F : Fn X g k m dws f) (hm : X.mg x = some (.ref f)) (hk : PySem.W.keepIn X.K (.ref f) = true) (hr : Room k X.A) (tk : L2N.Takes X Wx) (hg : Gl X x) (ha : DA X g Wx (e :: es) fr)
    (hdb : (x == ("__debug__" : Str)) = false := by decide) (he : starEach (e :: es) X.env = (false, eval e X.env) :: starEach es X.env := by rfl) (hpl : (backTo pos (starEach es X.env)).any (·.1) = false := by rfl) :
    DE X g Wx (.Call (.Name x p) (e :: es) [] pos) (eCall m dws fr) := by
  refine ⟨fun pins s σ H Q I ⟨B, env, la, st, R, h⟩ => ?_⟩
  refine wpAny_Call_Name_kw (ld_glob I hg hm ?_ hdb)
  refine PySem.W.callWith_K (h₀ := X.base) I.ok.mod.kin hk (thn (ha.run pos pins s σ H (fun vs H1 => ∃ la1 st1 ws, RS g la1 st1 H1 ∧ RWs g la1 H1 ws vs ∧ Post g Wx la1 H1 σ (RWx g) Q (m (ws ++ dws) st1)) I ?_) fun us s1 ⟨vs, H1, I1, r, la1, st1, ws, rs1, r1, p1⟩ => ⟨I1.kIn, ?_⟩) he hpl
  · refine S.step R h fun ws st1 la1 H1 vs e1 x1 R1 r1 p1 => ⟨la1, st1, ws, R1.rs, r1, p1⟩
  · exact run_call F hr tk I1 r rs1 r1 p1
theorem de_call0 {x : Str} (F : Fn X g k m dws f) (hm : X.mg x = some (.ref f)) (hk : PySem.W.keepIn X.K (.ref f) = true) (hr : Room k X.A) (tk : L2N.Takes X Wx) (hg : Gl X x)
    (hdb : (x == ("__debug__" : Str)) = false := by decide) : DE X g Wx (.Call (.Name x p) [] [] pos) (eCall m dws aNil) := by
  refine ⟨fun pins s σ H Q I ⟨B, env, la, st, R, h⟩ => ?_⟩
  refine wpAny_Call_Name_kw (ld_glob I hg hm ?_ hdb)
  exact PySem.W.callWith_K0 I.kIn hk (run_call (us := []) F hr tk I .nil R.rs .nil h)
/-! ### attributes -/
def insAt (st : Store) : W → Option (Nat × Nat × List (String × W))
  | .ref n => match st[n]? with
    | some (.ins c fs) => some (n, c, fs)
    | _ => none
  | _ => none
theorem ins_of {la : Lay} {st : Store} {H : Hp} {w : W} {v : V} {n c : Nat} {fs : List (String × W)} (rs : RS g la st H) (r : RWx g la H w v) (h : insAt st w = some (n, c, fs)) :
    w = .ref n ∧ st[n]? = some (.ins c fs) ∧ ∃ a dx fvs, v = .ref a ∧ la.io[n]? = some a ∧ H a = some (.ins (g.ca c) dx fvs) ∧ RFs g la H fs fvs := by
  cases w <;> simp only [insAt] at h <;> try cases h
  rename_i m
  cases e : st[m]? with
  | none => rw [e] at h; cases h
  | some q =>
    rw [e] at h
    cases q with
    | ins c' fs' =>
      simp only [Option.some.injEq, Prod.mk.injEq] at h
      obtain ⟨h1, h2, h3⟩ := h
      subst h1 h2 h3
      simp only [RWx, RW] at r
      obtain ⟨a, ha, q⟩ := r
      obtain ⟨dx, fvs, q1, q2⟩ := rs.at_ _ _ a e ha
      exact ⟨rfl, e, a, dx, fvs, q, ha, q1, q2⟩
    | lst _ => cases h
    | dic _ => cases h
/-- an attribute of an instance -/
def eFld (fld : Nat → Bool) (f : String) (fo : FE) : FE := fun env st => (fo env st).bind fun x st1 => match insAt st1 x with
  | some (_, c, fs) => if fld c then (match fs.lookup f with
    | some w => .ok w st1
    | none => .bad) else .bad
  | none => .bad
/-- what of the class an attribute wants -/
def FldOk (X : Cx) (g : Glo) (fld : Nat → Bool) (f : String) : Prop := ∀ c, fld c = true → Cls X.K (g.ca c) ∧ NoAttr X.K (g.ca c) (Str.ofString f)
theorem de_fld {fld : Nat → Bool} {f : String} (hf : FldOk X g fld f) (ho : DE X g Wx o fo) (hb : attributeBase o (Str.ofString f) X.env (eval o X.env) = eval o X.env := by rfl) : DE X g Wx (.Attribute o (Str.ofString f) pos) (eFld fld f fo) := by
  refine PE.imp (pe_fld ho hb) fun σ H Q ⟨B, env, la, st, R, h⟩ => ?_
  refine S.step R h fun w st1 la1 H1 v e1 x1 R1 r1 p1 => ?_
  cases q : insAt st1 w with
  | none => rw [q] at p1; exact p1.elim
  | some t =>
    obtain ⟨n, c, fs⟩ := t
    rw [q] at p1
    simp only at p1
    obtain ⟨rfl, hst, a, dx, fvs, ev, ha, hH, hF⟩ := ins_of R1.rs r1 q
    by_cases hc : fld c = true
    · rw [if_pos hc] at p1
      cases l : fs.lookup f with
      | none => rw [l] at p1; exact p1.elim
      | some w2 =>
        rw [l] at p1
        obtain ⟨v2, l2, r2⟩ := hF.lookup l
        exact ⟨a, g.ca c, dx, fvs, v2, ev, hH, (hf c hc).1, (hf c hc).2, l2, p1.here R1.rs (.of r2)⟩
    · rw [if_neg hc] at p1; exact p1.elim
/-- an attribute or a property -/
def ePrp (fld : Nat → Bool) (prop : Nat → Option FF) (f : String) (fo : FE) : FE := fun env st => (fo env st).bind fun x st1 => match insAt st1 x with
  | some (n, c, fs) => (match prop c with
    | some m => (match m [.ref n] st1 with
      | .ok w st2 => .ok w st2
      | _ => .bad)
    | none => if fld c then (match fs.lookup f with
      | some w => .ok w st1
      | none => .bad) else .bad)
  | none => .bad
def PrpOk (X : Cx) (g : Glo) (k : Nat) (prop : Nat → Option FF) (f : String) : Prop := ∀ c m, prop c = some m → Cls X.K (g.ca c) ∧ ∃ p ga, PropOf X.K (g.ca c) (Str.ofString f) p ga ∧ Fn X g k m [] ga
theorem de_prp {fld : Nat → Bool} {prop : Nat → Option FF} {f : String} (hf : FldOk X g fld f) (hp : PrpOk X g k prop f) (hr : Room (k + 1) X.A) (ho : DE X g Wx o fo) (hb : attributeBase o (Str.ofString f) X.env (eval o X.env) = eval o X.env := by rfl) :
    DE X g Wx (.Attribute o (Str.ofString f) pos) (ePrp fld prop f fo) := by
  refine ⟨fun pins s σ H Q I ⟨B, env, la, st, R, h⟩ => ?_⟩
  refine attr_of hb (thn (ho.run pins s σ H (fun v H1 => ∃ w st1 la1, RS g la1 st1 H1 ∧ RWx g la1 H1 w v ∧ Post g Wx la1 H1 σ (RWx g) Q (match insAt st1 w with
    | some (n, c, fs) => (match prop c with
      | some m => (match m [.ref n] st1 with
        | .ok w st2 => .ok w st2
        | _ => .bad)
      | none => if fld c then (match fs.lookup f with
        | some w => .ok w st1
        | none => .bad) else .bad)
    | none => .bad)) I (S.step R h fun w st1 la1 H1 v e1 x1 R1 r1 p1 => ⟨w, st1, la1, R1.rs, r1, p1⟩)) fun u s1 ⟨v, H1, I1, rv, w, st1, la1, rs1, r1, p1⟩ => ?_)
  cases q : insAt st1 w with
  | none => rw [q] at p1; exact p1.elim
  | some t =>
    obtain ⟨n, c, fs⟩ := t
    rw [q] at p1
    simp only at p1
    obtain ⟨rfl, hst, a, dx, fvs, rfl, ha, hH, hF⟩ := ins_of rs1 r1 q
    obtain rfl : u = Value.ref a := rv
    cases qp : prop c with
    | some m =>
      rw [qp] at p1
      simp only at p1
      obtain ⟨hC, pp, ga, hP, F⟩ := hp c m qp
      obtain ⟨fd, ps, dvs, ds, F1, hbd, hd, hw, ar⟩ := F.ex
      have hdv : dvs = [] := by have := hw la1 H1; simpa only [RWs] using this
      subst hdv
      cases qg : m [.ref n] st1 with
      | ok w2 st2 =>
        rw [qg] at p1
        have hl : ps.length = 1 := by
          by_cases hz : ([.ref n] : List W).length = ps.length
          · exact hz.symm
          · rw [ar _ _ hz] at qg; cases qg
        refine getprop_ok (E := fun _ _ _ => False) I1 hH hC hP F1 hr hbd hd (fun _ _ _ _ _ _ _ hx => by obtain ⟨_, _, _, _, _, _, _, _, _, _, _, _, z⟩ := hx; exact z.elim) ?_
        refine ⟨by simpa using hl.symm, la1, [.ref n], st1, rs1, .one (by simp only [RW]; exact ⟨a, ha, rfl⟩), ?_⟩
        rw [qg]
        exact fun la' H' v x r q => p1 la' H' v x r (.of q)
      | exc c2 fs2 st2 => rw [qg] at p1; exact p1.elim
      | bad => rw [qg] at p1; exact p1.elim
    | none =>
      rw [qp] at p1
      simp only at p1
      by_cases hc : fld c = true
      · rw [if_pos hc] at p1
        cases l : fs.lookup f with
        | none => rw [l] at p1; exact p1.elim
        | some w2 =>
          rw [l] at p1
          obtain ⟨v2, l2, r2⟩ := hF.lookup l
          exact getattr_ok I1 hH (hf c hc).1 (hf c hc).2 l2 fun u s' I' ru => ⟨v2, H1, I', ru, p1.here rs1 (.of r2)⟩
      · rw [if_neg hc] at p1; exact p1.elim
/-- o.f = e -/
def sFldW (fld : Nat → Bool) (f : String) (fv fo : FE) : FS := fun env st => (fv env st).bindS env fun w st1 => if isLr w then .bad else (fo env st1).bindS env fun x st2 => match insAt st2 x with
  | some (n, c, fs) => if fld c && decide (fs.length < 900) then .nx env (st2.set n (.ins c (putW f w fs))) else .bad
  | none => .bad
theorem ds_fld {fld : Nat → Bool} {f : String} {fv : FE} {p' : Pos} (hf : FldOk X g fld f) (ho : DE X g Wx o fo) (hv : DE X g Wx e fv) (hs : swapsWith e (some (.Attribute o (Str.ofString f) p')) pos.line X.env = pure false := by rfl) : DS X g Wx (.Assign [.Attribute o (Str.ofString f) p'] e pos) (sFldW fld f fv fo) := by
  refine PS.imp (L2.ps_fld ho hv hs) fun D σ H ⟨B, env, la, st, R, h⟩ => ?_
  refine SS.step R h fun w st1 la1 H1 v x1 R1 r1 p1 => ?_
  by_cases hl : isLr w = true
  · simp only [hl, if_true] at p1; exact p1.elim
  · simp only [hl] at p1
    have rw1 := r1.rw (by simpa using hl)
    refine SS.step R1 p1 fun x st2 la2 H2 y x2 R2 r2 p2 => ?_
    cases q : insAt st2 x with
    | none => rw [q] at p2; exact p2.elim
    | some t =>
      obtain ⟨n, c, fs⟩ := t
      rw [q] at p2
      simp only at p2
      obtain ⟨rfl, hst, a, dx, fvs, ev, ha, hH, hF⟩ := ins_of R2.rs r2 q
      by_cases hc : (fld c && decide (fs.length < 900)) = true
      · rw [if_pos hc] at p2
        obtain ⟨hc1, hc2⟩ := Bool.and_eq_true_iff.mp hc
        have hl2 : fvs.length < 1000 := by
          rw [hF.length]
          have := of_decide_eq_true hc2
          omega
        refine ⟨a, g.ca c, dx, fvs, ev, hH, (hf c hc1).1, (hf c hc1).2, hl2, ?_⟩
        have rw2 := rw1.ext R1.rs x2.ext
        have hF2 := RFs.put (f := f) rw2 hF
        refine p2 σ la2 _ (ExtE.write ha).ext (R2.extE (.write ha) (R2.rs.write ha ⟨dx, _, upd_same, hF2.ext R2.rs (ExtE.write ha).ext⟩))
      · rw [if_neg hc] at p2; exact p2.elim
/-! ### methods -/
def eMeth (meth : Nat → Option FF) (nm : String) (fo : FE) (fr : Env → Store → Out (List W)) : FE := fun env st => (fo env st).bind fun x st1 => match insAt st1 x with
  | some (n, c, fs) => (match meth c, fs.lookup nm with
    | some m, none => (fr env st1).bind fun ws st2 => m (.ref n :: ws) st2
    | _, _ => .bad)
  | none => .bad
def MethOk (X : Cx) (g : Glo) (k : Nat) (meth : Nat → Option FF) (f : String) : Prop := ∀ c m, meth c = some m → Cls X.K (g.ca c) ∧ ∃ ga, Meth X.K (g.ca c) (Str.ofString f) ga ∧ Fn X g k m [] ga
theorem de_meth {meth : Nat → Option FF} {nm : String} {pl : Sem Bool} (hm : MethOk X g k meth nm) (hr : Room k X.A) (tk : L2N.Takes X Wx) (ho : DE X g Wx o fo) (ha : DA X g Wx (e :: es) fr)
    (hst : starEach (e :: es) X.env = (false, eval e X.env) :: starEach es X.env := by rfl) (hpl : (backTo pos (starEach es X.env)).any (·.1) = false := by rfl)
    (ht : eval (.Call (.Attribute o (Str.ofString nm) apos) (e :: es) [] pos) X.env = (do
      let ov ← eval o X.env
      standAt apos.atName
      let (f, first) ← holding [ov] (getMethod ov (Str.ofString nm) pl)
      callWith pos f first (backTo pos (starEach (e :: es) X.env)) (backToKw pos (keywordEach [] X.env))) := by rfl) :
    DE X g Wx (.Call (.Attribute o (Str.ofString nm) apos) (e :: es) [] pos) (eMeth meth nm fo fr) := by
  refine ⟨fun pins s σ H Q I ⟨B, env, la, st, R, h⟩ => ?_⟩
  refine PySem.W.methodCall_KW (pl := pl) (thn (ho.run pins s σ H (fun v H1 => ∃ w st1 la1, Rel g B env σ la1 st1 H1 ∧ RWx g la1 H1 w v ∧ Post g Wx la1 H1 σ (RWx g) Q (match insAt st1 w with
    | some (n, c, fs) => (match meth c, fs.lookup nm with
      | some m, none => (fr env st1).bind fun ws st2 => m (.ref n :: ws) st2
      | _, _ => .bad)
    | none => .bad)) I (S.step R h fun w st1 la1 H1 v e1 x1 R1 r1 p1 => ⟨w, st1, la1, R1, r1, p1⟩)) fun u s1 ⟨v, H1, I1, rv, w, st1, la1, R1, r1, p1⟩ => ?_) ht
  cases q : insAt st1 w with
  | none => rw [q] at p1; exact p1.elim
  | some t =>
    obtain ⟨n, c, fs⟩ := t
    rw [q] at p1
    simp only at p1
    obtain ⟨rfl, hst1, a, dx, fvs, rfl, hai, hH, hF⟩ := ins_of R1.rs r1 q
    obtain rfl : u = Value.ref a := rv
    cases qm : meth c with
    | none => rw [qm] at p1; simp only at p1; exact p1.elim
    | some m =>
      cases ql : fs.lookup nm with
      | some z => rw [qm, ql] at p1; simp only at p1; exact p1.elim
      | none =>
        rw [qm, ql] at p1
        simp only at p1
        obtain ⟨hC, ga, hM, F⟩ := hm c m qm
        refine getmeth_ok I1 hH hC hM (hF.none ql) ?_
        refine PySem.W.callWith_K (first := [.ref a]) (h₀ := X.base) I.ok.mod.kin hM.kp (thn (ha.run pos pins s1 σ H1 (fun vs H2 => ∃ la2 st2 ws, RS g la2 st2 H2 ∧ la2.io[n]? = some a ∧ RWs g la2 H2 ws vs ∧ Post g Wx la2 H2 σ (RWx g) Q (m (.ref n :: ws) st2)) I1
          (S.step R1 p1 fun ws st2 la2 H2 vs e2 x2 R2 r2 p2 => ⟨la2, st2, ws, R2.rs, x2.ext.get hai, r2, p2⟩)) fun us s2 ⟨vs, H2, I2, r, la2, st2, ws, rs2, hai2, r2, p2⟩ => ⟨I2.kIn, ?_⟩) hst hpl
        exact run_call (us := .ref a :: us) (vs := .ref a :: vs) (ws := .ref n :: ws) F hr tk I2 (.cons rfl r) rs2 (.cons (by simp only [RW]; exact ⟨a, hai2, rfl⟩) r2) (by simpa using p2)
theorem de_meth0 {meth : Nat → Option FF} {nm : String} {pl : Sem Bool} (hm : MethOk X g k meth nm) (hr : Room k X.A) (tk : L2N.Takes X Wx) (ho : DE X g Wx o fo)
    (ht : eval (.Call (.Attribute o (Str.ofString nm) apos) [] [] pos) X.env = (do
      let ov ← eval o X.env
      standAt apos.atName
      let (f, first) ← holding [ov] (getMethod ov (Str.ofString nm) pl)
      callWith pos f first (backTo pos (starEach [] X.env)) (backToKw pos (keywordEach [] X.env))) := by rfl) :
    DE X g Wx (.Call (.Attribute o (Str.ofString nm) apos) [] [] pos) (eMeth meth nm fo aNil) := by
  refine ⟨fun pins s σ H Q I ⟨B, env, la, st, R, h⟩ => ?_⟩
  refine PySem.W.methodCall_KW (pl := pl) (thn (ho.run pins s σ H (fun v H1 => ∃ w st1 la1, Rel g B env σ la1 st1 H1 ∧ RWx g la1 H1 w v ∧ Post g Wx la1 H1 σ (RWx g) Q (match insAt st1 w with
    | some (n, c, fs) => (match meth c, fs.lookup nm with
      | some m, none => (aNil env st1).bind fun ws st2 => m (.ref n :: ws) st2
      | _, _ => .bad)
    | none => .bad)) I (S.step R h fun w st1 la1 H1 v e1 x1 R1 r1 p1 => ⟨w, st1, la1, R1, r1, p1⟩)) fun u s1 ⟨v, H1, I1, rv, w, st1, la1, R1, r1, p1⟩ => ?_) ht
  cases q : insAt st1 w with
  | none => rw [q] at p1; exact p1.elim
  | some t =>
    obtain ⟨n, c, fs⟩ := t
    rw [q] at p1
    simp only at p1
    obtain ⟨rfl, hst1, a, dx, fvs, rfl, hai, hH, hF⟩ := ins_of R1.rs r1 q
    obtain rfl : u = Value.ref a := rv
    cases qm : meth c with
    | none => rw [qm] at p1; simp only at p1; exact p1.elim
    | some m =>
      cases ql : fs.lookup nm with
      | some z => rw [qm, ql] at p1; simp only at p1; exact p1.elim
      | none =>
        rw [qm, ql] at p1
        simp only at p1
        obtain ⟨hC, ga, hM, F⟩ := hm c m qm
        refine getmeth_ok I1 hH hC hM (hF.none ql) ?_
        exact PySem.W.callWith_K0 (first := [.ref a]) I1.kIn hM.kp (run_call (us := [.ref a]) (vs := [.ref a]) (ws := [.ref n]) F hr tk I1 (.cons rfl .nil) R1.rs (.one (by simp only [RW]; exact ⟨a, hai, rfl⟩)) (by simpa [aNil, Out.bind] using p1))
/-! ### new instances -/
theorem run_newS {CX : CXT} {k : Nat} {C f : Addr} {fd : FuncData} {ps : List Str} {sp : Sp} {dvs : List V} {ds : List Value} {E : L2.St → XK} {pins : List (Addr × Obj)} {σ : L2.St} {H : Hp} {s : Shared} {Q : VK} {us : List Value} {vs : List V} (M : Mk X.K C f) (F : FnOk X.prog X.w X.K X.mg X.base CX k f fd ps sp) (hr : Room (k + 1) X.A) (hb : Binds X.K fd ps ds) (hd : Vals dvs ds)
    (hx : PassesAt CX X σ (E σ)) (I : Inv X pins σ H s) (r : Vals vs us)
    (h : ∀ x dx, H x = none → H dx = none → dx ≠ x → sp (.ref x :: (vs ++ dvs)) (upd (upd H dx (.own x)) x (.ins C dx [])) (fun v H2 => v = .non ∧ Q (.ref x) H2) (E σ)) :
    wpAny (model X.prog X.w) X.A (call (.ref C) us) (EP X pins σ Q) X.xe s := by
  let n := s.heap.objs.size
  have hs := h (n + 1) n (I.hok.fresh (Nat.le_succ n)) (I.hok.fresh (Nat.le_refl n)) (Nat.ne_of_lt (Nat.lt_succ_self n))
  have J := Inv.made (C := C) I
  have rr : Vals (V.ref (n + 1) :: (vs ++ dvs)) (Value.ref (n + 1) :: (us ++ ds)) := Paired.cons rfl (r.append hd)
  have ll : (Value.ref (n + 1) :: us ++ ds).length = ps.length := (rr.length.symm.trans (F.len _ _ _ _ hs))
  have bb := hb _ (Value.ref (n + 1) :: us) J.kIn ll
  have go := F.run _ X.stack _ _ ⟨Value.ref (n + 1) :: us, []⟩ (Value.ref (n + 1) :: (us ++ ds)) _ _ (E σ) (hr.make C us []) (J.env0.make C us []) bb rr hs
  refine wpAny_call (make_map (f := f) I.kIn M.makes M.init (beq_iff_eq.mp M.fn) (codeAny_mono go fun res t ht => ?_))
  match res, ht with
  | .error x, ht => exact hx pins _ _ x t J ht
  | .ok (.ret u), ht =>
    obtain ⟨v, K', J2, rv, ev, fin⟩ := J.after ht
    cases ev
    exact ⟨rv, ⟨V.ref (n + 1), K', J2, rfl, fin⟩⟩
def eNew (c : Nat) (m : FF) (dws : List W) (fr : Env → Store → Out (List W)) : FE := fun env st => (fr env st).bind fun ws st1 => (m (.ref st1.length :: (ws ++ dws)) (st1 ++ [.ins c []])).bind fun w st2 => match w with
  | .non => .ok (.ref st1.length) st2
  | _ => .bad
theorem run_new {c : Nat} (M : Mk X.K (g.ca c) f) (F : Fn X g k m dws f) (hr : Room (k + 1) X.A) (tk : L2N.Takes X Wx) {pins : List (Addr × Obj)} {s : Shared} {σ : L2.St} {H : Hp} {Q : VK} {us : List Value} {vs : List V} {la : Lay} {st : Store} {ws : List W} (I : Inv X pins σ H s) (r : Vals vs us)
    (rs : RS g la st H) (rw_ : RWs g la H ws vs) (p : Post g Wx la H σ (RWx g) Q ((m (.ref st.length :: (ws ++ dws)) (st ++ [.ins c []])).bind fun w st2 => match w with
      | .non => .ok (.ref st.length) st2
      | _ => .bad)) :
    wpAny (model X.prog X.w) X.A (call (.ref (g.ca c)) us) (EP X pins σ Q) X.xe s := by
  obtain ⟨fd, ps, dvs, ds, F1, hb, hd, hw, ar⟩ := F.ex
  have hlen : (W.ref st.length :: (ws ++ dws)).length = ps.length := by
    by_cases h : (W.ref st.length :: (ws ++ dws)).length = ps.length
    · exact h
    · rw [ar _ _ h] at p; exact p.elim
  have M' : Mk X.K (g.ca c) f := M
  refine run_newS M' F1 hr hb hd (L2N.passAt tk σ) I r fun x dx hx hdx hne => ?_
  have rs1 : RS g la st (upd H dx (.own x)) := rs.fresh hdx
  have hx1 : upd H dx (.own x) x = none := by rw [upd_ne (Ne.symm hne)]; exact hx
  have x1 : ExtE la H la (upd H dx (.own x)) := .fresh hdx
  have x2 : ExtE la H ⟨la.io ++ [x], la.lv⟩ (upd (upd H dx (.own x)) x (.ins (g.ca c) dx [])) := x1.trans (.alloc hx1)
  have rs2 : RS g ⟨la.io ++ [x], la.lv⟩ (st ++ [.ins c []]) (upd (upd H dx (.own x)) x (.ins (g.ca c) dx [])) := rs1.alloc hx1 ⟨dx, [], upd_same, rfl⟩
  have hio : (la.io ++ [x])[st.length]? = some x := by rw [← rs.len, List.getElem?_concat_length]
  refine ⟨?_, _, .ref st.length :: (ws ++ dws), _, rs2, .cons (by simp only [RW]; exact ⟨x, hio, rfl⟩) ((rw_.app (hw la H)).ext rs x2.ext), ?_⟩
  · rw [← hlen]
    simp [(hw la H).length, rw_.length]
  · cases q : m (.ref st.length :: (ws ++ dws)) (st ++ [.ins c []]) with
    | ok w st2 =>
      rw [q] at p
      intro la' H' v x3 rs3 r3
      simp only [Out.bind] at p
      cases w <;> try exact p.elim
      simp only [RW] at r3
      refine ⟨r3, p la' H' _ (x2.trans x3) rs3 ?_⟩
      simp only [RWx, RW]
      exact ⟨x, x3.ext.get hio, rfl⟩
    | exc c2 fs2 st2 =>
      rw [q] at p
      exact fun la' H' d x3 rs3 r3 => p la' H' d (x2.trans x3) rs3 r3
    | bad => rw [q] at p; exact p
theorem de_new {x : Str} {c : Nat} (M : Mk X.K (g.ca c) f) (F : Fn X g k m dws f) (hr : Room (k + 1) X.A) (tk : L2N.Takes X Wx) (hg : Gl X x) (hm : X.mg x = some (.ref (g.ca c))) (ha : DA X g Wx (e :: es) fr)
    (hdb : (x == ("__debug__" : Str)) = false := by decide) (he : starEach (e :: es) X.env = (false, eval e X.env) :: starEach es X.env := by rfl) (hpl : (backTo pos (starEach es X.env)).any (·.1) = false := by rfl) :
    DE X g Wx (.Call (.Name x p) (e :: es) [] pos) (eNew c m dws fr) := by
  refine ⟨fun pins s σ H Q I ⟨B, env, la, st, R, h⟩ => ?_⟩
  refine wpAny_Call_Name_kw (ld_glob I hg hm ?_ hdb)
  refine PySem.W.callWith_K (h₀ := X.base) I.ok.mod.kin M.kp (thn (ha.run pos pins s σ H (fun vs H1 => ∃ la1 st1 ws, RS g la1 st1 H1 ∧ RWs g la1 H1 ws vs ∧ Post g Wx la1 H1 σ (RWx g) Q ((m (.ref st1.length :: (ws ++ dws)) (st1 ++ [.ins c []])).bind fun w st2 => match w with
      | .non => .ok (.ref st1.length) st2
      | _ => .bad)) I ?_) fun us s1 ⟨vs, H1, I1, r, la1, st1, ws, rs1, r1, p1⟩ => ⟨I1.kIn, ?_⟩) he hpl
  · refine S.step R h fun ws st1 la1 H1 vs e1 x1 R1 r1 p1 => ⟨la1, st1, ws, R1.rs, r1, p1⟩
  · exact run_new M F hr tk I1 r rs1 r1 p1
theorem de_new0 {x : Str} {c : Nat} (M : Mk X.K (g.ca c) f) (F : Fn X g k m dws f) (hr : Room (k + 1) X.A) (tk : L2N.Takes X Wx) (hg : Gl X x) (hm : X.mg x = some (.ref (g.ca c)))
    (hdb : (x == ("__debug__" : Str)) = false := by decide) : DE X g Wx (.Call (.Name x p) [] [] pos) (eNew c m dws aNil) := by
  refine ⟨fun pins s σ H Q I ⟨B, env, la, st, R, h⟩ => ?_⟩
  refine wpAny_Call_Name_kw (ld_glob I hg hm ?_ hdb)
  exact PySem.W.callWith_K0 I.kIn M.kp (run_new (us := []) (vs := []) (ws := []) M F hr tk I .nil R.rs .nil h)
end
end Hb

end

section
set_option Elab.async false
set_option linter.all false
set_option maxRecDepth 100000
set_option maxHeartbeats 4000000
/-! Hb4: a def by its body; walks: for loops. -/
namespace Hb
open PySem PySem.Spec PyProof.Rows L2

section
variable {g : Glo}
theorem RFs.lvs {io lv lv' : List Addr} {H : Hp} (hs : ∀ p, p ∈ lv' → p ∈ lv) : ∀ {fs : List (String × W)} {vs : List (Str × V)}, RFs g ⟨io, lv⟩ H fs vs → RFs g ⟨io, lv'⟩ H fs vs
  | [], vs, h => h
  | (f, w) :: r, vs, ⟨v, fs', q, s, t⟩ => ⟨v, fs', q, s.lvs hs, RFs.lvs hs t⟩
theorem RX.back {la : Lay} {H : Hp} {lv : List Addr} {fs : List (String × W)} {d : Option Addr} (r : RX g la H fs d) (h : ∀ p, p ∈ lv → p ∈ la.lv) : RX g ⟨la.io, lv⟩ H fs d := by
  obtain ⟨io, lv0⟩ := la
  rcases r with r | ⟨n, a, fvs, e1, e2, r⟩
  · exact .inl r
  · exact .inr ⟨n, a, fvs, e1, e2, r.lvs h⟩
/-- a def by its body: nN names, np of them parameters -/
def mkFF (nN np : Nat) (f : FS) : FF := fun ws st => if ws.length = np then (match f (ws.map .v ++ List.replicate (nN - np) .no) st with
  | .nx _ st' => .ok .non st'
  | .rt w st' => .ok w st'
  | .exc c fs _ st' => .exc c fs st'
  | _ => .bad) else .bad
theorem mkFF_ar {nN np : Nat} {f : FS} {ws : List W} {st : Store} (h : ws.length ≠ np) : mkFF nN np f ws st = .bad := by
  unfold mkFF; rw [if_neg h]
theorem Rel.start {la : Lay} {st : Store} {H : Hp} {ws : List W} {vs : List V} {N : List Str} (rs : RS g la st H) (r : RWs g la H ws vs) :
    Rel g ⟨la, H⟩ (ws.map .v ++ List.replicate (N.length - ws.length) .no) (L2.start N vs) la st H where
  rs := rs
  len := by unfold L2.start; simp [r.length]
  val := fun i w h => by
    have hi : i < ws.length := by
      by_cases q : i < ws.length
      · exact q
      · rw [List.getElem?_append_right (by simp; omega)] at h
        obtain ⟨_, q2⟩ := List.getElem?_eq_some_iff.mp h
        simp at q2
    rw [List.getElem?_append_left (by simpa using hi), List.getElem?_map] at h
    cases e : ws[i]? with
    | none => rw [e] at h; cases h
    | some x =>
      rw [e] at h
      cases h
      obtain ⟨v, hv, rv⟩ := r.get e
      refine ⟨v, ?_, rv⟩
      unfold L2.start
      rw [List.getElem?_append_left (by rw [List.length_map, r.length]; exact hi), List.getElem?_map, hv]; rfl
  lst := fun i us h => by
    by_cases q : i < ws.length
    · rw [List.getElem?_append_left (by simpa using q), List.getElem?_map] at h
      cases e : ws[i]? with
      | none => rw [e] at h; cases h
      | some x => rw [e] at h; cases h
    · rw [List.getElem?_append_right (by simp; omega)] at h
      obtain ⟨_, q2⟩ := List.getElem?_eq_some_iff.mp h
      simp at q2
  dis := fun i j us us' p _ h => by
    by_cases q : i < ws.length
    · rw [List.getElem?_append_left (by simpa using q), List.getElem?_map] at h
      cases e : ws[i]? with
      | none => rw [e] at h; cases h
      | some x => rw [e] at h; cases h
    · rw [List.getElem?_append_right (by simp; omega)] at h
      obtain ⟨_, q2⟩ := List.getElem?_eq_some_iff.mp h
      simp at q2
  exc := fun i c fs h => by
    by_cases q : i < ws.length
    · rw [List.getElem?_append_left (by simpa using q), List.getElem?_map] at h
      cases e : ws[i]? with
      | none => rw [e] at h; cases h
      | some x => rw [e] at h; cases h
    · rw [List.getElem?_append_right (by simp; omega)] at h
      obtain ⟨_, q2⟩ := List.getElem?_eq_some_iff.mp h
      simp at q2
  pre := List.prefix_refl _
  new := fun a h n m => by exact h.elim (fun z => absurd z n) fun z => absurd z m
  keep := fun p o h _ => h
  lvs := fun p h => h
  own := fun p h e => by
    obtain ⟨⟨vs, q⟩, _⟩ := rs.lvo p h
    have e' : H p = none := e
    rw [q] at e'; cases e'
/-- what is wanted of an exception that leaves the def -/
abbrev WD (E : XK) : WX := fun cls d _ H => E cls d H
theorem fn_ok {P : Program} {w : World} {K : PySem.W.Frag} {mg : Str → Option Value} {base : Heap} {x qual : Str} {params : Arguments} {body : List Stmt} {scope : Scope} {dvs : List V} {kws : List (Str × V)} {f : Addr} {fd : FuncData} {N ps : List Str} {k : Nat} {fb : FS}
    (F : FunD K x qual params body scope dvs kws f fd) (S : FnScope N ps scope)
    (h : ∀ (cdv : Value) (A : Around) (outer : List PySem.Env) (s : Shared) (H : Hp) (E : XK), Room k (A.deeper (envOfC qual scope s.heap.objs.size f cdv)) →
      L2N.Takes (cxOf (L2N.CX P w) P w K mg base N qual scope f cdv A outer s H E) (WD E) → PassesOwn (model P w) (A.deeper (envOfC qual scope s.heap.objs.size f cdv)) (envOfC qual scope s.heap.objs.size f cdv) (cxOf (L2N.CX P w) P w K mg base N qual scope f cdv A outer s H E).xe →
      DSs (cxOf (L2N.CX P w) P w K mg base N qual scope f cdv A outer s H E) g (WD E) body fb) : FnOk P w K mg base (L2N.CX P w) (k + 1) f fd ps (spOf g ps.length (mkFF N.length ps.length fb)) := by
  refine F.ok S (fun vs H Q E h => h.1) (fun cdv A outer s H vs Q E hr hsp => ⟨SS g (WD E) fb, h cdv A outer s H E hr (L2N.takes_of rfl rfl rfl rfl) (passes_of (X := cxOf (L2N.CX P w) P w K mg base N qual scope f cdv A outer s H E) rfl), ?_⟩)
  obtain ⟨hl, la, ws, st, rs, r, p⟩ := hsp
  have hw : ws.length = ps.length := by rw [← r.length]; exact hl
  unfold mkFF at p
  rw [if_pos hw, ← hw] at p
  refine ⟨⟨la, H⟩, _, la, st, Rel.start (N := N) rs r, ?_⟩
  cases e : fb (ws.map .v ++ List.replicate (N.length - ws.length) .no) st with
  | nx env' st' =>
    rw [e] at p
    exact fun σ' la' H' x R' => p ⟨la'.io, la.lv⟩ H' _ R'.gone (R'.rs.back R'.lvs) (by simp only [RW])
  | rt w' st' =>
    rw [e] at p
    exact p
  | exc c fs env' st' =>
    rw [e] at p
    exact fun σ' la' H' d x R' rx => p ⟨la'.io, la.lv⟩ H' d R'.gone (R'.rs.back R'.lvs) (rx.back R'.lvs)
  | bk a s => rw [e] at p; exact p.elim
  | ct a s => rw [e] at p; exact p.elim
  | bad => rw [e] at p; exact p.elim
/-- .. to be called -/
theorem fnP_ok {P : Program} {w : World} {K : PySem.W.Frag} {mg : Str → Option Value} {base : Heap} {x qual : Str} {params : Arguments} {body : List Stmt} {scope : Scope} {dvs : List V} {kws : List (Str × V)} {f : Addr} {fd : FuncData} {N ps : List Str} {k : Nat} {fb : FS}
    (F : FunD K x qual params body scope dvs kws f fd) (S : FnScope N ps scope) (hb : Binds K fd ps [])
    (h : ∀ (cdv : Value) (A : Around) (outer : List PySem.Env) (s : Shared) (H : Hp) (E : XK), Room k (A.deeper (envOfC qual scope s.heap.objs.size f cdv)) →
      L2N.Takes (cxOf (L2N.CX P w) P w K mg base N qual scope f cdv A outer s H E) (WD E) → PassesOwn (model P w) (A.deeper (envOfC qual scope s.heap.objs.size f cdv)) (envOfC qual scope s.heap.objs.size f cdv) (cxOf (L2N.CX P w) P w K mg base N qual scope f cdv A outer s H E).xe →
      DSs (cxOf (L2N.CX P w) P w K mg base N qual scope f cdv A outer s H E) g (WD E) body fb) : FnP P w K mg base g (k + 1) (mkFF N.length ps.length fb) [] f :=
  ⟨fd, ps, [], [], fn_ok F S h, hb, .nil, fun _ _ => .nil, fun _ _ hn => mkFF_ar hn⟩
end

/-! ### walks -/
/-- J walks ws, as long as the source stands: n's object of the store (if one is told) is the list ws -/
def WalkJ (g : Glo) (J : It) (ws : List W) (ck : Option Nat) (la0 : Lay) (H0 : Hp) : Prop := ∀ (la : Lay) (H : Hp) (st : Store), Ext la0 H0 la H → RS g la st H → (∀ n, ck = some n → seqW st (.ref n) = some ws) → ∀ i : Nat,
  (∀ w, ws[i]? = some w → J.go i H ∧ ∀ x H', J.yld i H x H' → ∃ la', ExtE la H la' H' ∧ RS g la' st H' ∧ RW g la' H' w x) ∧ (ws[i]? = none → J.stop i H)
/-- the source of a walk: the items, what must stand -/
abbrev Src := List W × Option Nat
def PostI (g : Glo) (Wx : WX) (la : Lay) (H : Hp) (σ : L2.St) (R : It → Hp → Prop) : Out Src → Prop
  | .ok (ws, ck) st' => ∀ la' H' J, ExtE la H la' H' → RS g la' st' H' → WalkJ g J ws ck la' H' → R J H'
  | .exc c fs st' => ∀ la' H' d, ExtE la H la' H' → RS g la' st' H' → RX g la' H' fs d → Wx (.ref (g.ca c)) d σ H'
  | .bad => False
theorem PostI.later {g : Glo} {Wx : WX} {la la1 : Lay} {H H1 : Hp} {σ : L2.St} {R : It → Hp → Prop} {o : Out Src} (p : PostI g Wx la H σ R o) (e : ExtE la H la1 H1) : PostI g Wx la1 H1 σ R o := by
  cases o with
  | ok a st' => obtain ⟨ws, ck⟩ := a; exact fun la' H' J e' r => p la' H' J (e.trans e') r
  | exc c fs st' => exact fun la' H' d e' r q => p la' H' d (e.trans e') r q
  | bad => exact p
def SI (g : Glo) (Wx : WX) (f : Env → Store → Out Src) : TI := fun σ H R => ∃ B env la st, Rel g B env σ la st H ∧ PostI g Wx la H σ R (f env st)
def DI (X : Cx) (g : Glo) (Wx : WX) (tg e : Expr) (f : Env → Store → Out Src) : Prop := PI X tg e (SI g Wx f)
theorem PI.imp {X : Cx} {tg e : Expr} {t t' : TI} (h : PI X tg e t) (i : ∀ σ H R, t' σ H R → t σ H R) : PI X tg e t' := ⟨fun pins s σ H R I p => h.run pins s σ H R I (i σ H R p)⟩
theorem PI.or {X : Cx} {tg e : Expr} {t u : TI} (h : PI X tg e t) (h' : PI X tg e u) : PI X tg e (fun σ H R => t σ H R ∨ u σ H R) := ⟨fun pins s σ H R I p => p.elim (h.run pins s σ H R I) (h'.run pins s σ H R I)⟩
theorem SI.step {α β : Type} {g : Glo} {Wx : WX} {B : Base} {env : Env} {σ : L2.St} {la : Lay} {st : Store} {H : Hp} {R : It → Hp → Prop} {RR : Lay → Hp → α → β → Prop} {G : β → Hp → Prop} {fa : Env → Store → Out α} {k : α → Store → Out Src}
    (Rl : Rel g B env σ la st H) (p : PostI g Wx la H σ R ((fa env st).bind k))
    (hk : ∀ a st' la' H' b, ExtE la H la' H' → Rel g B env σ la' st' H' → RR la' H' a b → PostI g Wx la' H' σ R (k a st') → G b H') : S g Wx RR fa σ H G := by
  refine ⟨B, env, la, st, Rl, ?_⟩
  cases e : fa env st with
  | ok a st' =>
    rw [e] at p
    exact fun la' H' b e' r q => hk a st' la' H' b e' (Rl.extE e' r) q (PostI.later p e')
  | exc c fs st' => rw [e] at p; exact p
  | bad => rw [e] at p; exact p
section
variable {X : Cx} {g : Glo} {Wx : WX} {a b c e tg : Expr} {fa fb fc fe : FE} {pos p' : Pos}
/-- a tuple, a list: the items of a value -/
def iSeq (fe : FE) : Env → Store → Out Src := fun env st => (fe env st).bind fun w st1 => match w with
  | .tup ws => .ok (ws, none) st1
  | .im ws => .ok (ws, none) st1
  | .sc ws => .ok (ws, none) st1
  | .ref n => (match seqW st1 (.ref n) with
    | some ws => .ok (ws, some n) st1
    | none => .bad)
  | _ => .bad
theorem walk_tup {la0 : Lay} {H0 : Hp} {st0 : Store} {K : PySem.W.Frag} {p : Addr} {ws : List W} {vs : List V} (hK : g.K = K) (rs0 : RS g la0 st0 H0) (h : SqT K H0 p vs) (r : RWs g la0 H0 ws vs) : WalkJ g (Itt K p) ws none la0 H0 := by
  intro la H st x rs _ i
  have h1 : SqT K H p vs := SqT.ext rs0 x h
  have r1 := r.ext rs0 x
  refine ⟨fun w hw => ?_, fun hn => ⟨vs, h1, ?_⟩⟩
  · obtain ⟨v, hv, rv⟩ := r1.get hw
    refine ⟨⟨vs, v, h1, hv⟩, fun y H' hy => ?_⟩
    obtain ⟨e1, e2⟩ := hy
    subst e1
    have e3 := e2 vs h1
    rw [hv] at e3; cases e3
    exact ⟨la, .refl, rs, rv⟩
  · have := List.getElem?_eq_none_iff.mp hn
    rw [r.length]; exact this
theorem walk_lst {la0 : Lay} {H0 : Hp} {st0 : Store} {K : PySem.W.Frag} {p : Addr} {ws : List W} {ck : Option Nat}
    (st : ∀ la H (st : Store), Ext la0 H0 la H → RS g la st H → (∀ n, ck = some n → seqW st (.ref n) = some ws) → ∃ vs, SqL K H p vs ∧ RWs g la H ws vs) : WalkJ g (Itl K p) ws ck la0 H0 := by
  intro la H st1 x rs hck i
  obtain ⟨vs, h1, r1⟩ := st la H st1 x rs hck
  refine ⟨fun w hw => ?_, fun hn => ⟨vs, h1, ?_⟩⟩
  · obtain ⟨v, hv, rv⟩ := r1.get hw
    refine ⟨⟨vs, v, h1, hv⟩, fun y H' hy => ?_⟩
    obtain ⟨e1, e2⟩ := hy
    subst e1
    have e3 := e2 vs h1
    rw [hv] at e3; cases e3
    exact ⟨la, .refl, rs, rv⟩
  · have := List.getElem?_eq_none_iff.mp hn
    rw [r1.length]; exact this
theorem di_seq (hK : g.K = X.K) (he : DE X g Wx e fe) : DI X g Wx tg e (iSeq fe) := by
  refine PI.imp (PI.or (pi_tup he) (pi_list he)) fun σ H R ⟨B, env, la, st, Rl, p⟩ => ?_
  cases ev : fe env st with
  | bad => unfold iSeq at p; rw [ev] at p; exact p.elim
  | exc c fs st1 =>
    unfold iSeq at p; rw [ev] at p
    refine .inl ⟨B, env, la, st, Rl, ?_⟩
    rw [ev]; exact p
  | ok w st1 =>
    unfold iSeq at p; rw [ev] at p
    simp only [Out.bind] at p
    cases w <;> try exact p.elim
    · rename_i ws
      refine .inl ⟨B, env, la, st, Rl, ?_⟩
      rw [ev]
      intro la1 H1 v x1 rs1 r1
      simp only [RWx, RW] at r1
      obtain ⟨q, vs, rfl, hs, z, r⟩ := r1
      rw [hK] at hs
      exact ⟨q, rfl, ⟨vs, hs⟩, p la1 H1 _ x1 rs1 (walk_tup hK rs1 hs r)⟩
    · rename_i n
      simp only at p
      cases es : seqW st1 (.ref n) with
      | none => rw [es] at p; exact p.elim
      | some ws =>
        rw [es] at p
        refine .inr ⟨B, env, la, st, Rl, ?_⟩
        rw [ev]
        intro la1 H1 v x1 rs1 r1
        simp only [RWx, RW] at r1
        obtain ⟨q, hq, rfl⟩ := r1
        have st2 : ∀ la2 H2 (st2 : Store), Ext la1 H1 la2 H2 → RS g la2 st2 H2 → seqW st2 (.ref n) = some ws → ∃ vs, SqL X.K H2 q vs ∧ RWs g la2 H2 ws vs := fun la2 H2 st2 x2 rs2 h2 => by
          simp only [seqW] at h2
          cases e2 : st2[n]? with
          | none => rw [e2] at h2; cases h2
          | some c =>
            have q2 := rs2.at_ n c q e2 (x2.get hq)
            rw [e2] at h2
            cases c with
            | lst us => cases h2; obtain ⟨vs, e1, z, r⟩ := q2; exact ⟨vs, .inl (.inl e1), r⟩
            | ins c fs => cases h2
            | dic k => cases h2
        obtain ⟨vs, h1, _⟩ := st2 la1 H1 st1 .refl rs1 es
        exact ⟨q, rfl, ⟨vs, h1⟩, p la1 H1 _ x1 rs1 (walk_lst (st0 := st1) fun la2 H2 st3 x2 rs2 h2 => st2 la2 H2 st3 x2 rs2 (h2 n rfl))⟩
    · rename_i ws
      refine .inr ⟨B, env, la, st, Rl, ?_⟩
      rw [ev]
      intro la1 H1 v x1 rs1 r1
      simp only [RWx, RW] at r1
      obtain ⟨q, vs, rfl, hs, n, m, z, r⟩ := r1
      exact ⟨q, rfl, ⟨vs, .inl (.inl hs)⟩, p la1 H1 _ x1 rs1 (walk_lst (st0 := st1) fun la2 H2 st3 x2 rs2 _ => ⟨vs, .inl (.inl (x2.keep _ _ hs n m)), r.ext rs1 x2⟩)⟩
    · rename_i ws
      refine .inr ⟨B, env, la, st, Rl, ?_⟩
      rw [ev]
      intro la1 H1 v x1 rs1 r1
      simp only [RWx, RW] at r1
      obtain ⟨q, vs, rfl, hs, z, r⟩ := r1
      rw [hK] at hs
      exact ⟨q, rfl, ⟨vs, hs.sq⟩, p la1 H1 _ x1 rs1 (walk_lst (st0 := st1) fun la2 H2 st3 x2 rs2 _ => ⟨vs, (hs.ext rs1 x2).sq, r.ext rs1 x2⟩)⟩
/-! ### ranges -/
def rangeW (lo : Int) (n : Nat) : List W := (List.range n).map fun (i : Nat) => .int (lo + (i : Int))
theorem rangeW_get (lo : Int) (n i : Nat) : (rangeW lo n)[i]? = if i < n then some (.int (lo + (i : Int))) else none := by
  unfold rangeW
  rw [List.getElem?_map]
  by_cases h : i < n
  · rw [if_pos h, List.getElem?_range h]; rfl
  · rw [if_neg h, List.getElem?_eq_none (by simpa using h)]; rfl
theorem walk_range {la0 : Lay} {H0 : Hp} {lo : Int} {n : Nat} : WalkJ g (Itr lo n) (rangeW lo n) none la0 H0 := by
  intro la H st x rs _ i
  rw [rangeW_get]
  by_cases h : i < n
  · rw [if_pos h]
    refine ⟨fun w hw => ⟨h, fun y H' hy => ?_⟩, fun q => by cases q⟩
    obtain ⟨rfl, rfl⟩ := hy
    cases hw
    exact ⟨la, .refl, rs, by simp only [RW]⟩
  · rw [if_neg h]
    exact ⟨fun w hw => (by cases hw), fun _ => Nat.le_of_not_lt h⟩
def smallI (j : Int) : Bool := decide (-(2 ^ 62) ≤ j) && decide (j < 2 ^ 62)
theorem smallI_of {j : Int} (h : smallI j = true) : -(2 ^ 62) ≤ j ∧ j < 2 ^ 62 := by
  obtain ⟨h1, h2⟩ := Bool.and_eq_true_iff.mp h
  exact ⟨of_decide_eq_true h1, of_decide_eq_true h2⟩
def iRan1 (fa : FE) : Env → Store → Out Src := fun env st => (aCons fa aNil env st).bind fun ws st1 => match ws with
  | [.int j] => if smallI j then .ok (rangeW 0 j.toNat, none) st1 else .bad
  | _ => .bad
theorem RWs.int1 {la : Lay} {H : Hp} {j : Int} {vs : List V} (r : RWs g la H [.int j] vs) : vs = [.int j] := by
  simp only [RWs] at r
  obtain ⟨v, t, rfl, h, rfl⟩ := r
  simp only [RW] at h
  rw [h]
theorem RWs.int2 {la : Lay} {H : Hp} {i j : Int} {vs : List V} (r : RWs g la H [.int i, .int j] vs) : vs = [.int i, .int j] := by
  simp only [RWs] at r
  obtain ⟨v, t, rfl, h, u, t2, rfl, h2, rfl⟩ := r
  simp only [RW] at h h2
  rw [h, h2]
theorem di_range1 (hg : Gl X "range") (hm : X.mg "range" = none) (ha : DE X g Wx a fa) (hs : starEach [a] X.env = [(false, eval a X.env)] := by rfl) : DI X g Wx tg (.Call (.Name "range" p') [a] [] pos) (iRan1 fa) := by
  refine PI.imp (pi_range1 hg hm (da_cons ha da_nil hs) hs) fun σ H R ⟨B, env, la, st, Rl, p⟩ => ?_
  refine SI.step Rl p fun ws st1 la1 H1 vs x1 R1 r1 p1 => ?_
  split at p1
  · rename_i j
    by_cases h : smallI j = true
    · rw [if_pos h] at p1
      obtain ⟨h1, h2⟩ := smallI_of h
      exact ⟨j, r1.int1, h1, h2, p1 la1 H1 _ .refl R1.rs walk_range⟩
    · rw [if_neg h] at p1; exact p1.elim
  · exact p1.elim
def iRan2 (fa fb : FE) : Env → Store → Out Src := fun env st => (aCons fa (aCons fb aNil) env st).bind fun ws st1 => match ws with
  | [.int i, .int j] => if smallI i && smallI j then .ok (rangeW i (j - i).toNat, none) st1 else .bad
  | _ => .bad
theorem di_range2 (hg : Gl X "range") (hm : X.mg "range" = none) (ha : DE X g Wx a fa) (hb : DE X g Wx b fb) (hs : starEach [a, b] X.env = [(false, eval a X.env), (false, eval b X.env)] := by rfl) (hs2 : starEach [b] X.env = [(false, eval b X.env)] := by rfl) (hs3 : starEach (a :: [b]) X.env = (false, eval a X.env) :: starEach [b] X.env := by rfl) :
    DI X g Wx tg (.Call (.Name "range" p') [a, b] [] pos) (iRan2 fa fb) := by
  refine PI.imp (pi_range2 hg hm (da_cons ha (da_cons hb da_nil hs2) hs3) hs hs2) fun σ H R ⟨B, env, la, st, Rl, p⟩ => ?_
  refine SI.step Rl p fun ws st1 la1 H1 vs x1 R1 r1 p1 => ?_
  split at p1
  · rename_i i j
    by_cases h : (smallI i && smallI j) = true
    · rw [if_pos h] at p1
      obtain ⟨q1, q2⟩ := Bool.and_eq_true_iff.mp h
      obtain ⟨h1, h2⟩ := smallI_of q1
      obtain ⟨h3, h4⟩ := smallI_of q2
      exact ⟨i, j, r1.int2, ⟨h1, h2, h3, h4⟩, p1 la1 H1 _ .refl R1.rs walk_range⟩
    · rw [if_neg h] at p1; exact p1.elim
  · exact p1.elim
/-! ### for -/
def ckP (ck : Option Nat) (all : List W) (st : Store) : Prop := match ck with
  | none => True
  | some n => seqW st (.ref n) = some all
open Classical in
noncomputable def forL (tg : FG) (body : FS) (ck : Option Nat) (all : List W) : List W → Env → Store → SO
  | [], env, st => if ckP ck all st then .nx env st else .bad
  | w :: ws, env, st => if ckP ck all st then (match tg w env st with
    | .nx e1 s1 => (match body e1 s1 with
      | .nx e s => forL tg body ck all ws e s
      | .ct e s => forL tg body ck all ws e s
      | .bk e s => .nx e s
      | o => o)
    | _ => .bad) else .bad
noncomputable def sFor (fi : Env → Store → Out Src) (tg : FG) (body : FS) : FS := fun env st => (fi env st).bindS env fun s st1 => forL tg body s.2 s.1 s.1 env st1
theorem ckP_seq {ck : Option Nat} {all : List W} {st : Store} (h : ckP ck all st) : ∀ n, ck = some n → seqW st (.ref n) = some all := by
  rintro n rfl
  exact h
theorem ds_for {tvs : List Nat} {iter : Expr} {sms : List Stmt} {fi : Env → Store → Out Src} {tf : FG} {fb : FS} (hp : PassesOwn (model X.prog X.w) X.A X.env X.xe) (hc : X.calm = true) (hi : DI X g Wx tg iter fi) (hg : DG X g tvs tg tf) (hb : DSs X g Wx sms fb)
    (hs : ∀ x, foldedSetIterable iter X.env x = pure x := by intro _; rfl) : DS X g Wx (.For tg iter sms [] pos) (sFor fi tf fb) := by
  refine PS.imp (ps_for hp hc hi hg hb hs) fun D σ H ⟨B, env, la, st, R, p⟩ => ⟨B, env, la, st, R, ?_⟩
  unfold sFor at p
  cases e : fi env st with
  | bad => rw [e] at p; exact p
  | exc c fs st1 =>
    rw [e] at p
    exact fun la' H' d x r q => p σ la' H' d x.ext (R.extE x r) q
  | ok s st1 =>
    obtain ⟨ws, ck⟩ := s
    rw [e] at p
    intro la1 H1 J x1 rs1 wj
    have R1 := R.extE x1 rs1
    refine ⟨fun i m σ H => m = ws.length - i ∧ i ≤ ws.length ∧ ∃ env la st, Rel g B env σ la st H ∧ Ext la1 H1 la H ∧ PostS g Wx B la H D (forL tf fb ck ws (ws.drop i) env st), ⟨ws.length, by simp, Nat.zero_le _, env, la1, st1, R1, .refl, by simpa using PostS.later p x1.ext⟩, ?_⟩
    rintro i m σ2 H2 ⟨rfl, hi, env2, la2, st2, R2, x2, p2⟩
    by_cases hlt : i < ws.length
    · have hd : ws.drop i = ws[i] :: ws.drop (i + 1) := List.drop_eq_getElem_cons hlt
      rw [hd] at p2
      unfold forL at p2
      by_cases hk : ckP ck ws st2
      · rw [if_pos hk] at p2
        obtain ⟨g1, _⟩ := wj la2 H2 st2 x2 R2.rs (ckP_seq hk) i
        obtain ⟨go, yl⟩ := g1 ws[i] (by simp [hlt])
        refine .inr ⟨go, fun σ H => ∃ env la st, Rel g B env σ la st H ∧ Ext la1 H1 la H ∧ PostS g Wx B la H D (forL tf fb ck ws (ws.drop (i + 1)) env st), fun σ' H' q => ⟨ws.length - (i + 1), by omega, rfl, hlt, q⟩, fun x H3 hy => ?_⟩
        obtain ⟨la3, x3, rs3, rx⟩ := yl x H3 hy
        have R3 := R2.extE x3 rs3
        refine ⟨B, env2, la3, st2, ws[i], R3, rx, ?_⟩
        cases et : tf ws[i] env2 st2 with
        | nx e1 s1 =>
          rw [et] at p2
          simp only at p2
          intro σ4 la4 H4 x4' R4 _
          have x4 := x4'.ext
          refine ⟨B, e1, la4, s1, R4, ?_⟩
          cases eb : fb e1 s1 with
          | nx e5 s5 =>
            rw [eb] at p2
            exact fun σ5 la5 H5 x5 R5 => ⟨e5, la5, s5, R5, ((x2.trans x3.ext).trans x4).trans x5, p2.later ((x3.ext.trans x4).trans x5)⟩
          | ct e5 s5 =>
            rw [eb] at p2
            exact fun σ5 la5 H5 x5 R5 => ⟨e5, la5, s5, R5, ((x2.trans x3.ext).trans x4).trans x5, p2.later ((x3.ext.trans x4).trans x5)⟩
          | bk e5 s5 =>
            rw [eb] at p2
            exact fun σ5 la5 H5 x5 R5 => p2 σ5 la5 H5 ((x3.ext.trans x4).trans x5) R5
          | rt w s5 => rw [eb] at p2; exact p2
          | exc c fs e5 s5 =>
            rw [eb] at p2
            exact fun σ5 la5 H5 d x5 R5 rx => p2 σ5 la5 H5 d ((x3.ext.trans x4).trans x5) R5 rx
          | bad => rw [eb] at p2; exact p2
        | bk a s => rw [et] at p2; exact p2.elim
        | ct a s => rw [et] at p2; exact p2.elim
        | rt w s => rw [et] at p2; exact p2.elim
        | exc c fs a s => rw [et] at p2; exact p2.elim
        | bad => rw [et] at p2; exact p2.elim
      · rw [if_neg hk] at p2; exact p2.elim
    · have hz : i = ws.length := by omega
      have hd : ws.drop i = [] := by rw [hz]; simp
      rw [hd] at p2
      unfold forL at p2
      by_cases hk : ckP ck ws st2
      · rw [if_pos hk] at p2
        obtain ⟨_, g2⟩ := wj la2 H2 st2 x2 R2.rs (ckP_seq hk) i
        exact .inl ⟨g2 (by simp [hz]), p2 σ2 la2 H2 .refl R2⟩
      · rw [if_neg hk] at p2; exact p2.elim
end
end Hb

end

section
set_option Elab.async false
set_option linter.all false
set_option maxRecDepth 100000
set_option maxHeartbeats 4000000
/-! Hb5: list comprehensions. -/
namespace Hb
open PySem PySem.Spec PyProof.Rows L2

section
variable {g : Glo} {B : Base} {env env' : Env} {σ σ' : L2.St} {la la' la1 : Lay} {st st' : Store} {H H' H1 : Hp}
/-! ### the slots of a block -/
def wipeE (env : Env) : List Nat → Env
  | [] => env
  | v :: vs => (wipeE env vs).set v .no
theorem Rel.wipe (R : Rel g B env σ la st H) : ∀ vs : List Nat, Rel g B (wipeE env vs) (wipe σ vs) la st H
  | [] => R
  | v :: vs => (R.wipe vs).unset v none
/-! ### a list that is being made, beside -/
theorem Rel.addL (R : Rel g B env σ la st H) {p : Addr} {vs : List V} (h : H p = none) : Rel g B env σ ⟨la.io, p :: la.lv⟩ st (upd H p (.lst vs)) where
  rs := R.rs.lv h
  len := R.len
  val := fun j x e => by
    obtain ⟨v, q, r'⟩ := R.val j x e
    exact ⟨v, q, r'.ext R.rs (.lv h)⟩
  lst := fun j x e => by
    obtain ⟨q, us, h1, h2, h3, h4, h5, h6⟩ := R.lst j x e
    exact ⟨q, us, h1, by rw [upd_ne (ne_of_none h2 h)]; exact h2, List.mem_cons_of_mem _ h3, h4, h5, h6.ext R.rs (.lv h)⟩
  dis := R.dis
  exc := fun j c fs e => by
    obtain ⟨a, d, h1, h2, h5⟩ := R.exc j c fs e
    exact ⟨a, d, h1, h2, h5.ext R.rs (.lv h)⟩
  pre := R.pre
  new := fun a ha n m => by
    rcases ha with q | q
    · exact R.new a (.inl q) n m
    · rcases List.mem_cons.mp q with q | q
      · rw [q]; exact R.isNew h
      · exact R.new a (.inr q) n m
  keep := fun q o e n => by
    have w := R.keep q o e n
    rw [upd_ne (ne_of_none w h)]; exact w
  lvs := fun q hq => List.mem_cons_of_mem _ (R.lvs q hq)
  own := R.own
/-- without the object at D -/
def hid (H : Hp) (D : Addr) : Hp := fun a => if a = D then none else H a
theorem hid_ne {D a : Addr} (h : a ≠ D) : hid H D a = H a := by unfold hid; rw [if_neg h]
theorem hid_same {D : Addr} : hid H D D = none := by unfold hid; rw [if_pos rfl]
theorem upd_hid {D : Addr} {o : HO} (h : H D = some o) : upd (hid H D) D o = H := by
  funext a
  by_cases e : a = D
  · subst e; rw [upd_same, h]
  · rw [upd_ne e, hid_ne e]
theorem upd_hid' {D : Addr} {o : HO} : upd (hid H D) D o = upd H D o := by
  funext a
  by_cases e : a = D
  · subst e; rw [upd_same, upd_same]
  · rw [upd_ne e, upd_ne e, hid_ne e]
theorem SqT.hid {K : PySem.W.Frag} {a D : Addr} {vs us : List V} (hD : H D = some (.lst us)) (h : SqT K H a vs) : SqT K (hid H D) a vs := by
  rcases h with (h | ⟨o, h⟩) | h
  · have n : a ≠ D := by rintro rfl; rw [hD] at h; cases h
    exact .inl (.inl (by rw [hid_ne n]; exact h))
  · have n : a ≠ D := by rintro rfl; rw [hD] at h; cases h
    exact .inl (.inr ⟨o, by rw [hid_ne n]; exact h⟩)
  · exact .inr h
theorem SqC.hid {K : PySem.W.Frag} {a D : Addr} {vs us : List V} (hD : H D = some (.lst us)) (h : SqC K H a vs) : SqC K (hid H D) a vs := by
  rcases h with ⟨o, h⟩ | h
  · have n : a ≠ D := by rintro rfl; rw [hD] at h; cases h
    exact .inl ⟨o, by rw [hid_ne n]; exact h⟩
  · exact .inr h
section
variable {io lv : List Addr} {D : Addr} {us : List V}
mutual
theorem RW.hid (hD : H D = some (.lst us)) : ∀ {w : W} {v : V}, RW g ⟨io, D :: lv⟩ H w v → RW g ⟨io, lv⟩ (hid H D) w v
  | .non, v, h => by simp only [RW] at *; exact h
  | .bl b, v, h => by simp only [RW] at *; exact h
  | .int i, v, h => by simp only [RW] at *; exact h
  | .str l, v, h => by simp only [RW] at *; exact h
  | .cl c, v, h => by simp only [RW] at *; exact h
  | .lr ws, v, h => by simp only [RW] at h
  | .ref n, v, h => by simp only [RW] at *; exact h
  | .tup ws, v, h => by
    simp only [RW] at *
    obtain ⟨a, vs, q, s, z, r⟩ := h
    exact ⟨a, vs, q, SqT.hid hD s, z, RWs.hid hD r⟩
  | .im ws, v, h => by
    simp only [RW] at *
    obtain ⟨p, vs, q, s, n, m, z, r⟩ := h
    have nD : p ≠ D := by rintro rfl; exact m List.mem_cons_self
    exact ⟨p, vs, q, by rw [hid_ne nD]; exact s, n, fun k => m (List.mem_cons_of_mem _ k), z, RWs.hid hD r⟩
  | .sc ws, v, h => by
    simp only [RW] at *
    obtain ⟨a, vs, q, s, z, r⟩ := h
    exact ⟨a, vs, q, SqC.hid hD s, z, RWs.hid hD r⟩
theorem RWs.hid (hD : H D = some (.lst us)) : ∀ {ws : List W} {vs : List V}, RWs g ⟨io, D :: lv⟩ H ws vs → RWs g ⟨io, lv⟩ (hid H D) ws vs
  | [], vs, h => by simp only [RWs] at *; exact h
  | w :: ws, vs, h => by
    simp only [RWs] at *
    obtain ⟨v, vs', q, r, s⟩ := h
    exact ⟨v, vs', q, RW.hid hD r, RWs.hid hD s⟩
end
theorem RFs.hid (hD : H D = some (.lst us)) : ∀ {fs : List (String × W)} {vs : List (Str × V)}, RFs g ⟨io, D :: lv⟩ H fs vs → RFs g ⟨io, lv⟩ (Hb.hid H D) fs vs
  | [], vs, h => h
  | (f, w) :: r, vs, ⟨v, fs', q, s, t⟩ => ⟨v, fs', q, s.hid hD, RFs.hid hD t⟩
theorem RKs.hid (hD : H D = some (.lst us)) : ∀ {fs : List (W × W)} {vs : List (Key × V)}, RKs g ⟨io, D :: lv⟩ H fs vs → RKs g ⟨io, lv⟩ (Hb.hid H D) fs vs
  | [], vs, h => h
  | (f, w) :: r, vs, ⟨x, v, fs', q, k, s, t⟩ => ⟨x, v, fs', q, k, s.hid hD, RKs.hid hD t⟩
theorem RS.hid (rs : RS g ⟨io, D :: lv⟩ st H) (hD : H D = some (.lst us)) (n : D ∉ lv) : RS g ⟨io, lv⟩ st (hid H D) := by
  refine ⟨rs.len, rs.nd, fun k c a e1 e2 => ?_, fun q hq => ?_⟩
  · have r := rs.at_ k c a e1 e2
    have nD : a ≠ D := by
      rintro rfl
      exact (rs.lvo _ List.mem_cons_self).2 (List.mem_of_getElem? e2)
    cases c with
    | lst ws => obtain ⟨vs, q, z, r⟩ := r; exact ⟨vs, by rw [hid_ne nD]; exact q, z, r.hid hD⟩
    | ins c fs => obtain ⟨dx, fvs, q, r⟩ := r; exact ⟨dx, fvs, by rw [hid_ne nD]; exact q, r.hid hD⟩
    | dic kvs => obtain ⟨k, q, r⟩ := r; exact ⟨k, by rw [hid_ne nD]; exact q, r.hid hD⟩
  · obtain ⟨⟨vs, e⟩, m⟩ := rs.lvo q (List.mem_cons_of_mem _ hq)
    have nD : q ≠ D := by rintro rfl; exact n hq
    exact ⟨⟨vs, by rw [hid_ne nD]; exact e⟩, m⟩
/-- an expression's step beside D, seen without D -/
theorem ExtE.hid {io2 : List Addr} {vs : List V} {H2 : Hp} (e : ExtE ⟨io, D :: lv⟩ (upd H D (.lst vs)) ⟨io2, D :: lv⟩ H2) (h : H D = none) : ExtE ⟨io, lv⟩ H ⟨io2, lv⟩ (hid H2 D) where
  pre := e.pre
  new := fun a ha n => by
    have q := e.new a ha n
    by_cases x : a = D
    · rw [x]; exact h
    · rw [upd_ne x] at q; exact q
  keep := fun p o hp n => by
    have x : p ≠ D := ne_of_none hp h
    rw [hid_ne x]
    exact e.keep p o (by rw [upd_ne x]; exact hp) n
  lv := rfl
end
end

/-! ### the loop -/
open Classical in
noncomputable def compL (tg : FG) (tt : Env → Store → Out Bool) (fe : FE) (ck : Option Nat) (all : List W) (env : Env) : List W → Store → List W → Out (List W)
  | [], st, acc => if ckP ck all st then .ok acc st else .bad
  | w :: ws, st, acc => if ckP ck all st then (match tg w env st with
    | .nx e1 s1 => (match tt e1 s1 with
      | .ok b s2 => if b then (match fe e1 s2 with
        | .ok y s3 => if isLr y || decide (1000000 ≤ acc.length) then .bad else compL tg tt fe ck all env ws s3 (acc ++ [y])
        | _ => .bad) else compL tg tt fe ck all env ws s2 acc
      | _ => .bad)
    | _ => .bad) else .bad
/-- [elt for tg in .. if ..], the block's slots vs -/
noncomputable def lComp (fi : Env → Store → Out Src) (vs : List Nat) (tg : FG) (tt : Env → Store → Out Bool) (fe : FE) : Env → Store → Out (List W) := fun env st => (fi env st).bind fun s st1 => compL tg tt fe s.2 s.1 (wipeE env vs) s.1 st1 []
def tYesE : Env → Store → Out Bool := fun _ st => .ok true st
/-- a test list -/
def DTs (X : Cx) (g : Glo) (Wx : WX) (ifs : List Expr) (t : Env → Store → Out Bool) : Prop := PTs X ifs (S g Wx REq t)
abbrev WxF : WX := fun _ _ _ _ => False
section
variable {X : Cx} {g : Glo} {Wx : WX}
theorem dts_nil : DTs X g Wx [] tYesE := ⟨fun pins s σ H Q I h => pts_nil.run pins s σ H Q I (by
  obtain ⟨B, env, la, st, R, p⟩ := h
  exact p la H true .refl R.rs rfl)⟩
theorem dts_one {c : Expr} {t : Env → Store → Out Bool} (h : DT X g Wx c t) : DTs X g Wx [c] t := pts_one h
/-- what the block's loop asks -/
theorem comp_imp {fi : Env → Store → Out Src} {vs : List Nat} {tg : FG} {tt : Env → Store → Out Bool} {fe : FE} {σ : L2.St} {H : Hp} {Q : VK} (h : SL g Wx (lComp fi vs tg tt fe) σ H Q) :
    tLc (SI g Wx fi) (SG g vs tg) (S g WxF REq tt) (S g WxF (RWx g) fe) vs σ H Q := by
  obtain ⟨B, env, la, st, R, p⟩ := h
  refine ⟨B, env, la, st, R, ?_⟩
  unfold lComp at p
  cases e : fi env st with
  | bad => rw [e] at p; exact p
  | exc c fs st1 => rw [e] at p; exact p
  | ok s st1 =>
    obtain ⟨ws, ck⟩ := s
    rw [e] at p
    intro la1 H1 J x1 rs1 wj D hD
    have R1 := (R.extE x1 rs1).wipe vs
    have nD := (rs1.new hD).2
    refine ⟨fun i m Hc => m = ws.length - i ∧ i ≤ ws.length ∧ ∃ la2 st2 acc us, ExtE la1 H1 ⟨la2, la1.lv⟩ (hid Hc D) ∧ RS g ⟨la2, la1.lv⟩ st2 (hid Hc D) ∧ Hc D = some (.lst us) ∧ us.length ≤ sizeLine ∧ RWs g ⟨la2, la1.lv⟩ (hid Hc D) acc us ∧
      PostL g Wx la H σ Q (compL tg tt fe ck ws (wipeE env vs) (ws.drop i) st2 acc), ⟨ws.length, by simp, Nat.zero_le _, la1.io, st1, [], [], ?_⟩, ?_⟩
    · have hh : hid (upd H1 D (.lst [])) D = H1 := by
        funext a
        by_cases z : a = D
        · subst z; rw [hid_same, hD]
        · rw [hid_ne z, upd_ne z]
      rw [hh]
      exact ⟨.refl, rs1, upd_same, Nat.zero_le _, .nil, by simpa using p⟩
    · rintro i m Hc ⟨rfl, hi, la2, st2, acc, us, x2, rs2, eD, hz, ra, p2⟩
      have hu : upd (hid Hc D) D (.lst us) = Hc := upd_hid eD
      have rsc : RS g ⟨la2, D :: la1.lv⟩ st2 Hc := by
        have := rs2.lv (p := D) (vs := us) hid_same
        rw [hu] at this; exact this
      have xc : Ext la1 H1 ⟨la2, D :: la1.lv⟩ Hc := by
        have := x2.ext.trans (Ext.lv (p := D) (vs := us) hid_same)
        rw [hu] at this; exact this
      by_cases hlt : i < ws.length
      · have hd : ws.drop i = ws[i] :: ws.drop (i + 1) := List.drop_eq_getElem_cons hlt
        rw [hd] at p2
        unfold compL at p2
        by_cases hk : ckP ck ws st2
        · rw [if_pos hk] at p2
          obtain ⟨g1, _⟩ := wj ⟨la2, D :: la1.lv⟩ Hc st2 xc rsc (ckP_seq hk) i
          obtain ⟨go, yl⟩ := g1 ws[i] (by simp [hlt])
          refine .inr ⟨go, fun Hn => ∃ la3 st3 acc3 us3, ExtE la1 H1 ⟨la3, la1.lv⟩ (hid Hn D) ∧ RS g ⟨la3, la1.lv⟩ st3 (hid Hn D) ∧ Hn D = some (.lst us3) ∧ us3.length ≤ sizeLine ∧ RWs g ⟨la3, la1.lv⟩ (hid Hn D) acc3 us3 ∧
            PostL g Wx la H σ Q (compL tg tt fe ck ws (wipeE env vs) (ws.drop (i + 1)) st3 acc3), fun H' q => ⟨ws.length - (i + 1), by omega, rfl, hlt, q⟩, fun x H3 hy => ?_⟩
          obtain ⟨la3, x3, rs3, rx⟩ := yl x H3 hy
          have R2 : Rel g B (wipeE env vs) (wipe σ vs) ⟨la2, D :: la1.lv⟩ st2 Hc := by
            have q := (R1.extE x2 rs2).addL (p := D) (vs := us) hid_same
            rw [hu] at q; exact q
          have R3 := R2.extE x3 rs3
          refine ⟨B, wipeE env vs, la3, st2, ws[i], R3, rx, ?_⟩
          cases et : tg ws[i] (wipeE env vs) st2 with
          | nx e1 s1 =>
            rw [et] at p2
            simp only at p2
            intro σ4 la4 H4 x4 R4 hw
            have hw' : wipe σ4 vs = wipe σ vs := by
              rw [hw]
              have jj : ∀ {us : List Nat}, (∀ u ∈ us, u ∈ vs) → wipe (wipe σ vs) us = wipe σ vs := by
                intro us
                induction us with
                | nil => intro _; rfl
                | cons u us ih =>
                  intro h
                  show (wipe (wipe σ vs) us).set u none = _
                  rw [ih fun z hz => h z (List.mem_cons_of_mem _ hz)]
                  have : ∀ {vs : List Nat} {τ : L2.St}, u ∈ vs → (wipe τ vs).set u none = wipe τ vs := by
                    intro vs
                    induction vs with
                    | nil => intro τ h; cases h
                    | cons v vs ih2 =>
                      intro τ h
                      show ((wipe τ vs).set v none).set u none = (wipe τ vs).set v none
                      by_cases q : u = v
                      · subst q; simp
                      · rw [List.set_comm _ _ (Ne.symm q), ih2 (by simpa [q] using h)]
                  exact this (h u List.mem_cons_self)
              exact jj fun u hu => hu
            refine ⟨hw', B, e1, la4, s1, R4, ?_⟩
            cases eb : tt e1 s1 with
            | ok b s2 =>
              rw [eb] at p2
              simp only at p2
              intro la5 H5 b' x5 rs5 hb
              cases hb
              have R5 := R4.extE x5 rs5
              have y5 := (x3.trans x4).trans x5
              cases b with
              | false =>
                simp only [Bool.false_eq_true, if_false] at p2 ⊢
                obtain ⟨io5, lv5⟩ := la5
                have hl : lv5 = D :: la1.lv := y5.lv
                subst hl
                have e5 : H5 D = some (.lst us) := y5.keep _ _ eD (rsc.lvo D List.mem_cons_self).2
                have y5' : ExtE ⟨la2, D :: la1.lv⟩ (upd (hid Hc D) D (.lst us)) ⟨io5, D :: la1.lv⟩ H5 := by rw [hu]; exact y5
                exact ⟨io5, s2, acc, us, x2.trans (y5'.hid hid_same), rs5.hid e5 nD, e5, hz, ra.ext rs2 (y5'.hid hid_same).ext, p2⟩
              | true =>
                simp only [if_true] at p2 ⊢
                refine ⟨B, e1, la5, s2, R5, ?_⟩
                cases ee : fe e1 s2 with
                | ok y s3 =>
                  rw [ee] at p2
                  simp only at p2
                  intro la6 H6 vy x6 rs6 ry
                  have y6 := y5.trans x6
                  obtain ⟨io6, lv6⟩ := la6
                  have hl : lv6 = D :: la1.lv := y6.lv
                  subst hl
                  have e6 : H6 D = some (.lst us) := y6.keep _ _ eD (rsc.lvo D List.mem_cons_self).2
                  have y6' : ExtE ⟨la2, D :: la1.lv⟩ (upd (hid Hc D) D (.lst us)) ⟨io6, D :: la1.lv⟩ H6 := by rw [hu]; exact y6
                  by_cases hc : (isLr y || decide (1000000 ≤ acc.length)) = true
                  · rw [if_pos hc] at p2; exact p2.elim
                  · rw [if_neg hc] at p2
                    simp only [Bool.or_eq_true, decide_eq_true_eq, not_or] at hc
                    have hsz : us.length < sizeLine := by
                      rw [ra.length]
                      have := line_ge
                      omega
                    refine ⟨us, e6, hsz, ?_⟩
                    have hh : hid (upd H6 D (.lst (us ++ [vy]))) D = hid H6 D := by
                      funext a
                      by_cases z : a = D
                      · subst z; rw [hid_same, hid_same]
                      · rw [hid_ne z, hid_ne z, upd_ne z]
                    refine ⟨io6, s3, acc ++ [y], us ++ [vy], ?_⟩
                    rw [hh]
                    exact ⟨x2.trans (y6'.hid hid_same), rs6.hid e6 nD, upd_same, by simp; omega, (ra.ext rs2 (y6'.hid hid_same).ext).append (.one ((ry.rw (by simpa using hc.1)).hid e6)), p2⟩
                | exc c fs s3 => rw [ee] at p2; exact p2.elim
                | bad => rw [ee] at p2; exact p2.elim
            | exc c fs s2 => rw [eb] at p2; exact p2.elim
            | bad => rw [eb] at p2; exact p2.elim
          | bk a s => rw [et] at p2; exact p2.elim
          | ct a s => rw [et] at p2; exact p2.elim
          | rt w s => rw [et] at p2; exact p2.elim
          | exc c fs a s => rw [et] at p2; exact p2.elim
          | bad => rw [et] at p2; exact p2.elim
        · rw [if_neg hk] at p2; exact p2.elim
      · have hz2 : i = ws.length := by omega
        have hd : ws.drop i = [] := by rw [hz2]; simp
        rw [hd] at p2
        unfold compL at p2
        by_cases hk : ckP ck ws st2
        · rw [if_pos hk] at p2
          obtain ⟨_, g2⟩ := wj ⟨la2, D :: la1.lv⟩ Hc st2 xc rsc (ckP_seq hk) i
          refine .inl ⟨g2 (by simp [hz2]), ?_⟩
          have := p2 ⟨la2, la1.lv⟩ (hid Hc D) D us (x1.trans x2) rs2 hid_same hz ra
          rw [hu] at this; exact this
        · rw [if_neg hk] at p2; exact p2.elim
section
variable {elt tg iter : Expr} {ifs : List Expr} {scope : Scope} {own : List (Str × Nat)} {pos : Pos} {fi : Env → Store → Out Src} {ft : FG} {tt : Env → Store → Out Bool} {fe : FE}
theorem dl_comp (hc : X.calm = true) (hN : X.N.Nodup) (hi : DI X g Wx tg iter fi) (ok : BlkOk X.N X.env.scope scope own)
    (hb : ∀ (s : Shared) (H : Hp) (C : Addr) (cl : List (Str × Addr)) (fp : List Addr), DG (X.blk s H scope (compEnvC scope cl C X.env) fp) g (own.map (·.2)) tg ft ∧ DTs (X.blk s H scope (compEnvC scope cl C X.env) fp) g WxF ifs tt ∧ DE (X.blk s H scope (compEnvC scope cl C X.env) fp) g WxF elt fe)
    (hs : ∀ x, foldedSetIterable iter X.env x = pure x := by intro _; rfl) : DL X g Wx (.ListComp elt [⟨tg, iter, ifs, 0⟩] scope pos) (lComp fi (own.map (·.2)) ft tt fe) :=
  PE.imp (pe_lc hc hN hi ok (fun s H C cl fp => (hb s H C cl fp).1) (fun s H C cl fp => (hb s H C cl fp).2.1) (fun s H C cl fp => (hb s H C cl fp).2.2) hs) fun _ _ _ h => comp_imp h
/-- name = [..] on one line -/
theorem ds_compL {i : Nat} {y : Str} {py spos : Pos} (hc : X.calm = true) (hN : X.N.Nodup) (hy : X.N[i]? = some y) (hyl : X.env.scope.names.lookup y = some .local) (hi : DI X g Wx tg iter fi) (ok : BlkOk X.N X.env.scope scope own)
    (hb : ∀ (s : Shared) (H : Hp) (C : Addr) (cl : List (Str × Addr)) (fp : List Addr), DG (X.blk s H scope (compEnvC scope cl C X.env) fp) g (own.map (·.2)) tg ft ∧ DTs (X.blk s H scope (compEnvC scope cl C X.env) fp) g WxF ifs tt ∧ DE (X.blk s H scope (compEnvC scope cl C X.env) fp) g WxF elt fe)
    (hs : ∀ x, foldedSetIterable iter X.env x = pure x := by intro _; rfl) (hsw : swapsWith (.ListComp elt [⟨tg, iter, ifs, 0⟩] scope pos) (some (.Name y py)) spos.line X.env = pure true := by rfl) :
    DS X g Wx (.Assign [.Name y py] (.ListComp elt [⟨tg, iter, ifs, 0⟩] scope pos) spos) (sSetL i (lComp fi (own.map (·.2)) ft tt fe)) :=
  ds_setL_of (ps_setLc hc hN hy hyl hsw hi ok (fun s H C cl fp => (hb s H C cl fp).1) (fun s H C cl fp => (hb s H C cl fp).2.1) (fun s H C cl fp => (hb s H C cl fp).2.2) hs) fun _ _ _ h => comp_imp h
theorem ds_compI {i : Nat} {y : Str} {py spos : Pos} (hc : X.calm = true) (hN : X.N.Nodup) (hy : X.N[i]? = some y) (hyl : X.env.scope.names.lookup y = some .local) (hi : DI X g Wx tg iter fi) (ok : BlkOk X.N X.env.scope scope own)
    (hb : ∀ (s : Shared) (H : Hp) (C : Addr) (cl : List (Str × Addr)) (fp : List Addr), DG (X.blk s H scope (compEnvC scope cl C X.env) fp) g (own.map (·.2)) tg ft ∧ DTs (X.blk s H scope (compEnvC scope cl C X.env) fp) g WxF ifs tt ∧ DE (X.blk s H scope (compEnvC scope cl C X.env) fp) g WxF elt fe)
    (hs : ∀ x, foldedSetIterable iter X.env x = pure x := by intro _; rfl) (hsw : swapsWith (.ListComp elt [⟨tg, iter, ifs, 0⟩] scope pos) (some (.Name y py)) spos.line X.env = pure true := by rfl) :
    DS X g Wx (.Assign [.Name y py] (.ListComp elt [⟨tg, iter, ifs, 0⟩] scope pos) spos) (sSet i (eIm (lComp fi (own.map (·.2)) ft tt fe))) :=
  ds_set_of (ps_setLc hc hN hy hyl hsw hi ok (fun s H C cl fp => (hb s H C cl fp).1) (fun s H C cl fp => (hb s H C cl fp).2.1) (fun s H C cl fp => (hb s H C cl fp).2.2) hs) fun _ _ _ h => comp_imp (im_imp h)
theorem ds_compA {i : Nat} {y : Str} {py spos : Pos} (hc : X.calm = true) (hN : X.N.Nodup) (hy : X.N[i]? = some y) (hyl : X.env.scope.names.lookup y = some .local) (hi : DI X g Wx tg iter fi) (ok : BlkOk X.N X.env.scope scope own)
    (hb : ∀ (s : Shared) (H : Hp) (C : Addr) (cl : List (Str × Addr)) (fp : List Addr), DG (X.blk s H scope (compEnvC scope cl C X.env) fp) g (own.map (·.2)) tg ft ∧ DTs (X.blk s H scope (compEnvC scope cl C X.env) fp) g WxF ifs tt ∧ DE (X.blk s H scope (compEnvC scope cl C X.env) fp) g WxF elt fe)
    (hs : ∀ x, foldedSetIterable iter X.env x = pure x := by intro _; rfl) (hsw : swapsWith (.ListComp elt [⟨tg, iter, ifs, 0⟩] scope pos) (some (.Name y py)) spos.line X.env = pure true := by rfl) :
    DS X g Wx (.Assign [.Name y py] (.ListComp elt [⟨tg, iter, ifs, 0⟩] scope pos) spos) (sSet i (eAl (lComp fi (own.map (·.2)) ft tt fe))) :=
  ds_set_of (ps_setLc hc hN hy hyl hsw hi ok (fun s H C cl fp => (hb s H C cl fp).1) (fun s H C cl fp => (hb s H C cl fp).2.1) (fun s H C cl fp => (hb s H C cl fp).2.2) hs) fun _ _ _ h => comp_imp (al_imp h)
end
end
end Hb

end

section
set_option Elab.async false
set_option linter.all false
set_option maxRecDepth 100000
set_option maxHeartbeats 4000000
/-! Hb6: built-in functions by name; data; subscripts; lists' methods. -/
namespace Hb
open PySem PySem.Spec PyProof.Rows L2

section
variable {X : Cx} {g : Glo} {Wx : WX} {a b c e o : Expr} {fa fb fc fe fo : FE} {pos p p' apos : Pos}
/-! ### calls of built-in functions -/
abbrev R1L (g : Glo) : Lay → Hp → W → List V → Prop := fun la H w vs => ∃ v, vs = [v] ∧ RWx g la H w v
abbrev R2L (g : Glo) : Lay → Hp → W × W → List V → Prop := fun la H w vs => ∃ v u, vs = [v, u] ∧ RWx g la H w.1 v ∧ RWx g la H w.2 u
def aTwo (fa fb : FE) : Env → Store → Out (W × W) := fun env st => (fa env st).bind fun x st1 => (fb env st1).bind fun y st2 => .ok (x, y) st2
theorem da_1 (ha : DE X g Wx a fa) (hs : starEach [a] X.env = (false, eval a X.env) :: starEach [] X.env := by rfl) : PA X [a] (S g Wx (R1L g) fa) := by
  refine PA.imp (pa_cons ha pa_nil hs) fun σ H Q ⟨B, env, la, st, R, h⟩ => ?_
  cases ev : fa env st with
  | ok w st1 =>
    rw [ev] at h
    refine ⟨B, env, la, st, R, ?_⟩
    rw [ev]
    exact fun la' H' v x rs r => h la' H' [v] x rs ⟨v, rfl, r⟩
  | exc c fs st1 => refine ⟨B, env, la, st, R, ?_⟩; rw [ev] at h ⊢; exact h
  | bad => rw [ev] at h; exact h.elim
theorem da_2 (ha : DE X g Wx a fa) (hb : DE X g Wx b fb) (hs : starEach [a, b] X.env = (false, eval a X.env) :: starEach [b] X.env := by rfl) (hs2 : starEach [b] X.env = (false, eval b X.env) :: starEach [] X.env := by rfl) : PA X [a, b] (S g Wx (R2L g) (aTwo fa fb)) := by
  refine PA.imp (pa_cons ha (pa_cons hb pa_nil hs2) hs) fun σ H Q ⟨B, env, la, st, R, h⟩ => ?_
  refine S.step R h fun x st1 la1 H1 v1 e1 x1 R1 r1 p1 => ?_
  refine S.step R1 p1 fun y st2 la2 H2 v2 e2 x2 R2 r2 p2 => ?_
  exact p2 la2 H2 [v1, v2] .refl R2.rs ⟨v1, v2, rfl, r1.extE R1.rs x2, r2⟩
def V1 (g : Glo) (r : List V → Hp → VK → Prop) (gop : W → Store → Out W) : Prop := ∀ (Wx : WX) (la : Lay) (st : Store) (H : Hp) (σ : L2.St) (Q : VK) (w : W) (v : V), RS g la st H → RWx g la H w v → Post g Wx la H σ (RWx g) Q (gop w st) → r [v] H Q
def V1L (g : Glo) (r : List V → Hp → VK → Prop) (gop : W → Store → Out (List W)) : Prop := ∀ (Wx : WX) (la : Lay) (st : Store) (H : Hp) (σ : L2.St) (Q : VK) (w : W) (v : V), RS g la st H → RWx g la H w v → PostL g Wx la H σ Q (gop w st) → r [v] H Q
def V2 (g : Glo) (r : List V → Hp → VK → Prop) (gop : W → W → Store → Out W) : Prop := ∀ (Wx : WX) (la : Lay) (st : Store) (H : Hp) (σ : L2.St) (Q : VK) (w w2 : W) (v v2 : V), RS g la st H → RWx g la H w v → RWx g la H w2 v2 → Post g Wx la H σ (RWx g) Q (gop w w2 st) → r [v, v2] H Q
def lUn (gop : W → Store → Out (List W)) (fa : FE) : Env → Store → Out (List W) := fun env st => (fa env st).bind fun x st1 => gop x st1
variable {x : Str} {id T : String} {r : List V → Hp → VK → Prop} {gop : W → Store → Out W} {gopL : W → Store → Out (List W)} {gop2 : W → W → Store → Out W}
theorem de_b1 (hv1 : V1 g r gop) (hc : CallR X (.builtin id) r) (hg : Gl X x) (hm : X.mg x = none) (hv : bootBuiltins x = some (.builtin id)) (ha : DE X g Wx a fa) (hn : x ≠ "__name__" := by decide) (hdb : (x == ("__debug__" : Str)) = false := by decide)
    (hs : starEach [a] X.env = (false, eval a X.env) :: starEach [] X.env := by rfl) (hpl : (backTo pos (starEach [] X.env)).any (·.1) = false := by rfl) : DE X g Wx (.Call (.Name x p) [a] [] pos) (eUn gop fa) := by
  refine PE.imp (pe_callB hc hg hm hv (da_1 ha hs) hn hdb hs hpl) fun σ H Q ⟨B, env, la, st, R, h⟩ => ?_
  refine S.step R h fun w st1 la1 H1 vs e1 x1 R1 r1 p1 => ?_
  obtain ⟨v, rfl, r1⟩ := r1
  exact hv1 Wx la1 st1 H1 σ Q w v R1.rs r1 p1
theorem de_t1 (hv1 : V1 g r gop) (hc : CallR X (.type T) r) (hg : Gl X x) (hm : X.mg x = none) (hv : bootBuiltins x = some (.type T)) (ha : DE X g Wx a fa) (hn : x ≠ "__name__" := by decide) (hdb : (x == ("__debug__" : Str)) = false := by decide)
    (hs : starEach [a] X.env = (false, eval a X.env) :: starEach [] X.env := by rfl) (hpl : (backTo pos (starEach [] X.env)).any (·.1) = false := by rfl) : DE X g Wx (.Call (.Name x p) [a] [] pos) (eUn gop fa) := by
  refine PE.imp (pe_callTy hc hg hm hv (da_1 ha hs) hn hdb hs hpl) fun σ H Q ⟨B, env, la, st, R, h⟩ => ?_
  refine S.step R h fun w st1 la1 H1 vs e1 x1 R1 r1 p1 => ?_
  obtain ⟨v, rfl, r1⟩ := r1
  exact hv1 Wx la1 st1 H1 σ Q w v R1.rs r1 p1
theorem dl_b1 (hv1 : V1L g r gopL) (hc : CallR X (.builtin id) r) (hg : Gl X x) (hm : X.mg x = none) (hv : bootBuiltins x = some (.builtin id)) (ha : DE X g Wx a fa) (hn : x ≠ "__name__" := by decide) (hdb : (x == ("__debug__" : Str)) = false := by decide)
    (hs : starEach [a] X.env = (false, eval a X.env) :: starEach [] X.env := by rfl) (hpl : (backTo pos (starEach [] X.env)).any (·.1) = false := by rfl) : DL X g Wx (.Call (.Name x p) [a] [] pos) (lUn gopL fa) := by
  refine PE.imp (pe_callB hc hg hm hv (da_1 ha hs) hn hdb hs hpl) fun σ H Q ⟨B, env, la, st, R, h⟩ => ?_
  refine SL.step R h fun w st1 la1 H1 vs e1 x1 R1 r1 p1 => ?_
  obtain ⟨v, rfl, r1⟩ := r1
  exact hv1 Wx la1 st1 H1 σ Q w v R1.rs r1 p1
theorem dl_t1 (hv1 : V1L g r gopL) (hc : CallR X (.type T) r) (hg : Gl X x) (hm : X.mg x = none) (hv : bootBuiltins x = some (.type T)) (ha : DE X g Wx a fa) (hn : x ≠ "__name__" := by decide) (hdb : (x == ("__debug__" : Str)) = false := by decide)
    (hs : starEach [a] X.env = (false, eval a X.env) :: starEach [] X.env := by rfl) (hpl : (backTo pos (starEach [] X.env)).any (·.1) = false := by rfl) : DL X g Wx (.Call (.Name x p) [a] [] pos) (lUn gopL fa) := by
  refine PE.imp (pe_callTy hc hg hm hv (da_1 ha hs) hn hdb hs hpl) fun σ H Q ⟨B, env, la, st, R, h⟩ => ?_
  refine SL.step R h fun w st1 la1 H1 vs e1 x1 R1 r1 p1 => ?_
  obtain ⟨v, rfl, r1⟩ := r1
  exact hv1 Wx la1 st1 H1 σ Q w v R1.rs r1 p1
theorem de_b2 (hv2 : V2 g r gop2) (hc : CallR X (.builtin id) r) (hg : Gl X x) (hm : X.mg x = none) (hv : bootBuiltins x = some (.builtin id)) (ha : DE X g Wx a fa) (hb : DE X g Wx b fb) (hn : x ≠ "__name__" := by decide) (hdb : (x == ("__debug__" : Str)) = false := by decide)
    (hs : starEach [a, b] X.env = (false, eval a X.env) :: starEach [b] X.env := by rfl) (hs2 : starEach [b] X.env = (false, eval b X.env) :: starEach [] X.env := by rfl) (hpl : (backTo pos (starEach [b] X.env)).any (·.1) = false := by rfl) : DE X g Wx (.Call (.Name x p) [a, b] [] pos) (eBin gop2 fa fb) := by
  refine PE.imp (pe_callB hc hg hm hv (da_2 ha hb hs hs2) hn hdb hs hpl) fun σ H Q ⟨B, env, la, st, R, h⟩ => ?_
  refine ⟨B, env, la, st, R, ?_⟩
  unfold eBin at h
  unfold aTwo
  cases ea : fa env st with
  | ok w st1 =>
    rw [ea] at h
    simp only [Out.bind] at h ⊢
    cases eb : fb env st1 with
    | ok w2 st2 =>
      rw [eb] at h
      simp only at h ⊢
      rintro la' H' vs x1 rs ⟨v, u, rfl, r1, r2⟩
      exact hv2 Wx la' st2 H' σ Q w w2 v u rs r1 r2 (h.later x1)
    | exc c fs st2 => rw [eb] at h; exact h
    | bad => rw [eb] at h; exact h
  | exc c fs st1 => rw [ea] at h; exact h
  | bad => rw [ea] at h; exact h
/-! len -/
def gLen : W → Store → Out W := fun w st => match w with
  | .str l => if l.length ≤ 1000000 then .ok (.int l.length) st else .bad
  | w => (match seqW st w with
    | some ws => .ok (.int ws.length) st
    | none => .bad)
theorem v1_len (hK : g.K = X.K) : V1 g (fun xs H Q => (∃ p ys, xs = [.ref p] ∧ (SqL X.K H p ys ∨ SqT X.K H p ys) ∧ Q (.int ys.length) H) ∨ (∃ z, xs = [.str z] ∧ z.length ≤ sizeLine ∧ Q (.int z.length) H)) gLen := by
  intro Wx la st H σ Q w v rs r h
  cases w with
  | str l =>
    unfold gLen at h
    simp only at h
    by_cases c : l.length ≤ 1000000
    · rw [if_pos c] at h
      refine .inr ⟨_, by rw [r.str], ?_, ?_⟩
      · rw [str_len]; exact Nat.le_trans c line_ge
      · rw [str_len]; exact h.here rs .mkI
    · rw [if_neg c] at h; exact h.elim
  | _ =>
    unfold gLen at h
    simp only at h
    split at h
    · rename_i ws hw
      obtain ⟨q, vs, rfl, hs, z, r2⟩ := seq_of rs r hw
      rw [hK] at hs
      refine .inl ⟨q, vs, rfl, hs, ?_⟩
      rw [r2.length]; exact h.here rs .mkI
    · exact h.elim
theorem de_len (hK : g.K = X.K) (hg : Gl X "len") (hm : X.mg "len" = none) (ha : DE X g Wx a fa) (hs : starEach [a] X.env = (false, eval a X.env) :: starEach [] X.env := by rfl) (hpl : (backTo pos (starEach [] X.env)).any (·.1) = false := by rfl) : DE X g Wx (.Call (.Name "len" p) [a] [] pos) (eUn gLen fa) :=
  de_b1 (v1_len hK) (CallR.or call_len_seq call_len_str) hg hm (by rfl) ha (by decide) (by decide) hs hpl
/-! int, str, abs, max, min -/
def gInt : W → Store → Out W := fun w st => match w with
  | .int i => .ok (.int i) st
  | .bl k => .ok (.int (if k then 1 else 0)) st
  | _ => .bad
theorem v1_int : V1 g (fun xs H Q => (∃ i, xs = [.int i] ∧ Q (.int i) H) ∨ ∃ k, xs = [.bl k] ∧ Q (.int (if k then 1 else 0)) H) gInt := by
  intro Wx la st H σ Q w v rs r h
  cases w <;> try exact h.elim
  · exact .inr ⟨_, by rw [r.bl], h.here rs .mkI⟩
  · exact .inl ⟨_, by rw [r.int], h.here rs .mkI⟩
theorem de_int1 (hg : Gl X "int") (hm : X.mg "int" = none) (ha : DE X g Wx a fa) (hs : starEach [a] X.env = (false, eval a X.env) :: starEach [] X.env := by rfl) (hpl : (backTo pos (starEach [] X.env)).any (·.1) = false := by rfl) : DE X g Wx (.Call (.Name "int" p) [a] [] pos) (eUn gInt fa) :=
  de_t1 v1_int call_int1 hg hm (by rfl) ha (by decide) (by decide) hs hpl
def gAbs : W → Store → Out W := fun w st => match w with
  | .int i => .ok (.int (if i < 0 then -i else i)) st
  | _ => .bad
theorem v1_abs : V1 g (fun xs H Q => ∃ i, xs = [.int i] ∧ Q (.int (if i < 0 then -i else i)) H) gAbs := by
  intro Wx la st H σ Q w v rs r h
  cases w <;> try exact h.elim
  exact ⟨_, by rw [r.int], h.here rs .mkI⟩
theorem de_abs (hg : Gl X "abs") (hm : X.mg "abs" = none) (ha : DE X g Wx a fa) (hs : starEach [a] X.env = (false, eval a X.env) :: starEach [] X.env := by rfl) (hpl : (backTo pos (starEach [] X.env)).any (·.1) = false := by rfl) : DE X g Wx (.Call (.Name "abs" p) [a] [] pos) (eUn gAbs fa) :=
  de_b1 v1_abs call_abs hg hm (by rfl) ha (by decide) (by decide) hs hpl
def gMax2 : W → W → Store → Out W := gI0 fun i j => .int (if j > i then j else i)
def gMin2 : W → W → Store → Out W := gI0 fun i j => .int (if j < i then j else i)
theorem v2_I0 {f : Int → Int → Int} : V2 g (fun xs H Q => ∃ i j, xs = [.int i, .int j] ∧ Q (.int (f i j)) H) (gI0 fun i j => .int (f i j)) := by
  intro Wx la st H σ Q w w2 v v2 rs r r2 h
  unfold gI0 at h
  cases w <;> try exact h.elim
  cases w2 <;> try exact h.elim
  exact ⟨_, _, by rw [r.int, r2.int], h.here rs .mkI⟩
theorem de_max2 (hc : X.calm = true) (hg : Gl X "max") (hm : X.mg "max" = none) (ha : DE X g Wx a fa) (hb : DE X g Wx b fb) (hs : starEach [a, b] X.env = (false, eval a X.env) :: starEach [b] X.env := by rfl) (hs2 : starEach [b] X.env = (false, eval b X.env) :: starEach [] X.env := by rfl) (hpl : (backTo pos (starEach [b] X.env)).any (·.1) = false := by rfl) :
    DE X g Wx (.Call (.Name "max" p) [a, b] [] pos) (eBin gMax2 fa fb) := de_b2 v2_I0 (call_max2 hc) hg hm (by rfl) ha hb (by decide) (by decide) hs hs2 hpl
theorem de_min2 (hc : X.calm = true) (hg : Gl X "min") (hm : X.mg "min" = none) (ha : DE X g Wx a fa) (hb : DE X g Wx b fb) (hs : starEach [a, b] X.env = (false, eval a X.env) :: starEach [b] X.env := by rfl) (hs2 : starEach [b] X.env = (false, eval b X.env) :: starEach [] X.env := by rfl) (hpl : (backTo pos (starEach [b] X.env)).any (·.1) = false := by rfl) :
    DE X g Wx (.Call (.Name "min" p) [a, b] [] pos) (eBin gMin2 fa fb) := de_b2 v2_I0 (call_min2 hc) hg hm (by rfl) ha hb (by decide) (by decide) hs hs2 hpl
/-- list(x) of a list, a tuple -/
def gSeqL : W → Store → Out (List W) := fun w st => match seqW st w with
  | some ws => .ok ws st
  | none => .bad
theorem v1_list (hK : g.K = X.K) : V1L g (fun xs H Q => ∃ p ys, xs = [.ref p] ∧ (SqL X.K H p ys ∨ SqT X.K H p ys) ∧ ∀ l, H l = none → Q (.ref l) (upd H l (.lst ys))) gSeqL := by
  intro Wx la st H σ Q w v rs r h
  unfold gSeqL at h
  cases hw : seqW st w with
  | none => rw [hw] at h; exact h.elim
  | some ws =>
    rw [hw] at h
    obtain ⟨q, vs, rfl, hs, z, r2⟩ := seq_of rs r hw
    rw [hK] at hs
    exact ⟨q, vs, rfl, hs, fun l hl => h la H l vs .refl rs hl z r2⟩
theorem dl_list (hK : g.K = X.K) (hg : Gl X "list") (hm : X.mg "list" = none) (ha : DE X g Wx a fa) (hs : starEach [a] X.env = (false, eval a X.env) :: starEach [] X.env := by rfl) (hpl : (backTo pos (starEach [] X.env)).any (·.1) = false := by rfl) : DL X g Wx (.Call (.Name "list" p) [a] [] pos) (lUn gSeqL fa) :=
  dl_t1 (v1_list hK) call_list_of hg hm (by rfl) ha (by decide) (by decide) hs hpl
/-- tuple(x) -/
def gTup : W → Store → Out W := fun w st => match seqW st w with
  | some ws => .ok (.tup ws) st
  | none => .bad
theorem v1_tup (hK : g.K = X.K) : V1 g (fun xs H Q => ∃ p ys, xs = [.ref p] ∧ ((SqL X.K H p ys ∧ ∀ l, H l = none → Q (.ref l) (upd H l (.tup ys))) ∨ (SqT X.K H p ys ∧ Q (.ref p) H))) gTup := by
  intro Wx la st H σ Q w v rs r h
  unfold gTup at h
  cases hw : seqW st w with
  | none => rw [hw] at h; exact h.elim
  | some ws =>
    rw [hw] at h
    obtain ⟨q, vs, rfl, hs, z, r2⟩ := seq_of rs r hw
    refine ⟨q, vs, rfl, ?_⟩
    rw [hK] at hs
    rcases hs with hs | hs
    · refine .inl ⟨hs, fun l hl => ?_⟩
      refine h la _ _ (.fresh hl) (rs.fresh hl) ?_
      simp only [RWx, RW]
      exact ⟨l, vs, rfl, .of upd_same, z, r2.ext rs (ExtE.fresh hl).ext⟩
    · refine .inr ⟨hs, h la _ _ .refl rs ?_⟩
      simp only [RWx, RW]
      exact ⟨q, vs, rfl, by rw [hK]; exact hs, z, r2⟩
theorem de_tuple (hK : g.K = X.K) (hg : Gl X "tuple") (hm : X.mg "tuple" = none) (ha : DE X g Wx a fa) (hs : starEach [a] X.env = (false, eval a X.env) :: starEach [] X.env := by rfl) (hpl : (backTo pos (starEach [] X.env)).any (·.1) = false := by rfl) : DE X g Wx (.Call (.Name "tuple" p) [a] [] pos) (eUn gTup fa) :=
  de_t1 (v1_tup hK) call_tuple_of hg hm (by rfl) ha (by decide) (by decide) hs hpl
/-- bools of a list -/
def blsW : List W → Option (List Bool)
  | [] => some []
  | .bl b :: r => (blsW r).map (b :: ·)
  | _ => none
def intsW : List W → Option (List Int)
  | [] => some []
  | .int b :: r => (intsW r).map (b :: ·)
  | _ => none
theorem bls_of {la : Lay} {H : Hp} : ∀ {ws : List W} {vs : List V} {bs : List Bool}, RWs g la H ws vs → blsW ws = some bs → vs = bs.map V.bl
  | [], vs, bs, r, h => by
    simp only [blsW, Option.some.injEq] at h
    subst h
    simp only [RWs] at r; rw [r]; rfl
  | w :: ws, vs, bs, r, h => by
    cases w <;> simp only [blsW, reduceCtorEq] at h
    obtain ⟨bs', h1, rfl⟩ := Option.map_eq_some_iff.mp h
    simp only [RWs] at r
    obtain ⟨v, vs', rfl, r1, r2⟩ := r
    simp only [RW] at r1
    rw [r1, bls_of r2 h1]; rfl
theorem ints_of {la : Lay} {H : Hp} : ∀ {ws : List W} {vs : List V} {bs : List Int}, RWs g la H ws vs → intsW ws = some bs → vs = bs.map V.int
  | [], vs, bs, r, h => by
    simp only [intsW, Option.some.injEq] at h
    subst h
    simp only [RWs] at r; rw [r]; rfl
  | w :: ws, vs, bs, r, h => by
    cases w <;> simp only [intsW, reduceCtorEq] at h
    obtain ⟨bs', h1, rfl⟩ := Option.map_eq_some_iff.mp h
    simp only [RWs] at r
    obtain ⟨v, vs', rfl, r1, r2⟩ := r
    simp only [RW] at r1
    rw [r1, ints_of r2 h1]; rfl
/-- the items of a list -/
def lstW (st : Store) : W → Option (List W)
  | .tup _ => none
  | w => seqW st w
theorem lst_of {la : Lay} {st : Store} {H : Hp} {w : W} {v : V} {ws : List W} (rs : RS g la st H) (r : RWx g la H w v) (h : lstW st w = some ws) :
    ∃ a vs, v = .ref a ∧ SqL g.K H a vs ∧ vs.length ≤ sizeLine ∧ RWs g la H ws vs := by
  cases w <;> simp only [lstW, seqW] at h <;> try cases h
  · rename_i n
    simp only [RWx, RW] at r
    obtain ⟨a, ha, q⟩ := r
    cases e : st[n]? with
    | none => rw [e] at h; cases h
    | some c =>
      rw [e] at h
      have q2 := rs.at_ n c a e ha
      cases c with
      | lst us => cases h; obtain ⟨vs, e1, z, r⟩ := q2; exact ⟨a, vs, q, .inl (.inl e1), z, r⟩
      | ins c fs => cases h
      | dic k => cases h
  · simp only [RWx, RW] at r
    obtain ⟨p, vs, q, e, _, _, z, r⟩ := r
    exact ⟨p, vs, q, .inl (.inl e), z, r⟩
  · simp only [RWx] at r
    obtain ⟨p, vs, q, e, _, z, r⟩ := r
    exact ⟨p, vs, q, .inl (.inl e), z, r⟩
  · simp only [RWx, RW] at r
    obtain ⟨p, vs, q, e, z, r⟩ := r
    exact ⟨p, vs, q, e.sq, z, r⟩
def gBls (f : List Bool → Bool) : W → Store → Out W := fun w st => match (lstW st w).bind blsW with
  | some bs => .ok (.bl (f bs)) st
  | none => .bad
theorem v1_bls (hK : g.K = X.K) {f : List Bool → Bool} : V1 g (fun vs H Q => ∃ (a : Addr) (bs : List Bool), vs = [V.ref a] ∧ SqL X.K H a (bs.map V.bl) ∧ Q (.bl (f bs)) H) (gBls f) := by
  intro Wx la st H σ Q w v rs r h
  unfold gBls at h
  cases hw : lstW st w with
  | none => rw [hw] at h; exact h.elim
  | some ws =>
    rw [hw] at h
    simp only [Option.bind] at h
    cases hb : blsW ws with
    | none => rw [hb] at h; exact h.elim
    | some bs =>
      rw [hb] at h
      obtain ⟨q, vs, rfl, hs, z, r2⟩ := lst_of rs r hw
      rw [hK, bls_of r2 hb] at hs
      exact ⟨q, bs, rfl, hs, h.here rs .mkB⟩
theorem de_all (hK : g.K = X.K) (hc : X.calm = true) (hg : Gl X "all") (hm : X.mg "all" = none) (ha : DE X g Wx a fa) (hs : starEach [a] X.env = (false, eval a X.env) :: starEach [] X.env := by rfl) (hpl : (backTo pos (starEach [] X.env)).any (·.1) = false := by rfl) : DE X g Wx (.Call (.Name "all" p) [a] [] pos) (eUn (gBls fun l => l.all fun b => b) fa) :=
  de_b1 (v1_bls hK) (cr_all hc) hg hm (by rfl) ha (by decide) (by decide) hs hpl
theorem de_any (hK : g.K = X.K) (hc : X.calm = true) (hg : Gl X "any") (hm : X.mg "any" = none) (ha : DE X g Wx a fa) (hs : starEach [a] X.env = (false, eval a X.env) :: starEach [] X.env := by rfl) (hpl : (backTo pos (starEach [] X.env)).any (·.1) = false := by rfl) : DE X g Wx (.Call (.Name "any" p) [a] [] pos) (eUn (gBls fun l => l.any fun b => b) fa) :=
  de_b1 (v1_bls hK) (cr_any hc) hg hm (by rfl) ha (by decide) (by decide) hs hpl
def gInts (f : List Int → Option Int) : W → Store → Out W := fun w st => match ((lstW st w).bind intsW).bind f with
  | some i => .ok (.int i) st
  | none => .bad
theorem ints_at (hK : g.K = X.K) {f : List Int → Option Int} {Wx : WX} {la : Lay} {st : Store} {H : Hp} {σ : L2.St} {Q : VK} {w : W} {v : V} (rs : RS g la st H) (r : RWx g la H w v) (h : Post g Wx la H σ (RWx g) Q (gInts f w st)) :
    ∃ (a : Addr) (ns : List Int) (i : Int), v = .ref a ∧ SqL X.K H a (ns.map V.int) ∧ f ns = some i ∧ Q (.int i) H := by
  unfold gInts at h
  cases hw : lstW st w with
  | none => rw [hw] at h; exact h.elim
  | some ws =>
    rw [hw] at h
    simp only [Option.bind] at h
    cases hb : intsW ws with
    | none => rw [hb] at h; exact h.elim
    | some bs =>
      rw [hb] at h
      simp only at h
      obtain ⟨q, vs, rfl, hs, z, r2⟩ := lst_of rs r hw
      rw [hK, ints_of r2 hb] at hs
      cases hf : f bs with
      | none => rw [hf] at h; exact h.elim
      | some i => rw [hf] at h; exact ⟨q, bs, i, rfl, hs, hf, h.here rs .mkI⟩
theorem de_sum (hK : g.K = X.K) (hc : X.calm = true) (hg : Gl X "sum") (hm : X.mg "sum" = none) (ha : DE X g Wx a fa) (hs : starEach [a] X.env = (false, eval a X.env) :: starEach [] X.env := by rfl) (hpl : (backTo pos (starEach [] X.env)).any (·.1) = false := by rfl) : DE X g Wx (.Call (.Name "sum" p) [a] [] pos) (eUn (gInts fun l => some l.sum) fa) :=
  de_b1 (fun Wx la st H σ Q w v rs r h => by
    obtain ⟨q, ns, i, rfl, hs, hf, hq⟩ := ints_at hK rs r h
    cases hf
    exact ⟨q, ns, rfl, hs, hq⟩) (cr_sum hc) hg hm (by rfl) ha (by decide) (by decide) hs hpl
def maxI : List Int → Option Int
  | [] => none
  | x :: r => some (r.foldl max x)
def minI : List Int → Option Int
  | [] => none
  | x :: r => some (r.foldl min x)
theorem foldl_max_le : ∀ (l : List Int) (x : Int), x ≤ l.foldl max x ∧ ∀ y ∈ l, y ≤ l.foldl max x
  | [], x => ⟨Int.le_refl _, by simp⟩
  | z :: l, x => by
    obtain ⟨h1, h2⟩ := foldl_max_le l (max x z)
    simp only [List.foldl_cons]
    refine ⟨by omega, fun y hy => ?_⟩
    rcases List.mem_cons.mp hy with rfl | hy
    · omega
    · exact h2 y hy
theorem foldl_max_mem : ∀ (l : List Int) (x : Int), l.foldl max x = x ∨ l.foldl max x ∈ l
  | [], x => .inl rfl
  | z :: l, x => by
    simp only [List.foldl_cons, List.mem_cons]
    rcases foldl_max_mem l (max x z) with h | h
    · rw [h]
      rcases Int.max_def x z with e
      by_cases c : x ≤ z
      · exact .inr (.inl (by omega))
      · exact .inl (by omega)
    · exact .inr (.inr h)
theorem foldl_min_le : ∀ (l : List Int) (x : Int), l.foldl min x ≤ x ∧ ∀ y ∈ l, l.foldl min x ≤ y
  | [], x => ⟨Int.le_refl _, by simp⟩
  | z :: l, x => by
    obtain ⟨h1, h2⟩ := foldl_min_le l (min x z)
    simp only [List.foldl_cons]
    refine ⟨by omega, fun y hy => ?_⟩
    rcases List.mem_cons.mp hy with rfl | hy
    · omega
    · exact h2 y hy
theorem foldl_min_mem : ∀ (l : List Int) (x : Int), l.foldl min x = x ∨ l.foldl min x ∈ l
  | [], x => .inl rfl
  | z :: l, x => by
    simp only [List.foldl_cons, List.mem_cons]
    rcases foldl_min_mem l (min x z) with h | h
    · rw [h]
      by_cases c : z ≤ x
      · exact .inr (.inl (by omega))
      · exact .inl (by omega)
    · exact .inr (.inr h)
theorem de_max (hK : g.K = X.K) (hc : X.calm = true) (hg : Gl X "max") (hm : X.mg "max" = none) (ha : DE X g Wx a fa) (hs : starEach [a] X.env = (false, eval a X.env) :: starEach [] X.env := by rfl) (hpl : (backTo pos (starEach [] X.env)).any (·.1) = false := by rfl) : DE X g Wx (.Call (.Name "max" p) [a] [] pos) (eUn (gInts maxI) fa) :=
  de_b1 (fun Wx la st H σ Q w v rs r h => by
    obtain ⟨q, ns, i, rfl, hs, hf, hq⟩ := ints_at hK rs r h
    refine ⟨q, ns, rfl, hs, ?_, fun m hm hle => ?_⟩
    · cases ns with
      | nil => cases hf
      | cons => simp
    · cases ns with
      | nil => cases hf
      | cons z l =>
        simp only [maxI, Option.some.injEq] at hf
        obtain ⟨h1, h2⟩ := foldl_max_le l z
        have h3 : m ≤ i := by
          rw [← hf]
          rcases List.mem_cons.mp hm with rfl | hm
          · exact h1
          · exact h2 m hm
        have h4 : i ≤ m := by
          rw [← hf]
          rcases foldl_max_mem l z with e | e
          · rw [e]; exact hle z List.mem_cons_self
          · exact hle _ (List.mem_cons_of_mem _ e)
        rw [show m = i by omega]; exact hq) (cr_max hc) hg hm (by rfl) ha (by decide) (by decide) hs hpl
theorem de_min (hK : g.K = X.K) (hc : X.calm = true) (hg : Gl X "min") (hm : X.mg "min" = none) (ha : DE X g Wx a fa) (hs : starEach [a] X.env = (false, eval a X.env) :: starEach [] X.env := by rfl) (hpl : (backTo pos (starEach [] X.env)).any (·.1) = false := by rfl) : DE X g Wx (.Call (.Name "min" p) [a] [] pos) (eUn (gInts minI) fa) :=
  de_b1 (fun Wx la st H σ Q w v rs r h => by
    obtain ⟨q, ns, i, rfl, hs, hf, hq⟩ := ints_at hK rs r h
    refine ⟨q, ns, rfl, hs, ?_, fun m hm hle => ?_⟩
    · cases ns with
      | nil => cases hf
      | cons => simp
    · cases ns with
      | nil => cases hf
      | cons z l =>
        simp only [minI, Option.some.injEq] at hf
        obtain ⟨h1, h2⟩ := foldl_min_le l z
        have h3 : i ≤ m := by
          rw [← hf]
          rcases List.mem_cons.mp hm with rfl | hm
          · exact h1
          · exact h2 m hm
        have h4 : m ≤ i := by
          rw [← hf]
          rcases foldl_min_mem l z with e | e
          · rw [e]; exact hle z List.mem_cons_self
          · exact hle _ (List.mem_cons_of_mem _ e)
        rw [show m = i by omega]; exact hq) (cr_min hc) hg hm (by rfl) ha (by decide) (by decide) hs hpl
end
end Hb

end

section
set_option Elab.async false
set_option linter.all false
set_option maxRecDepth 100000
set_option maxHeartbeats 4000000
/-! Hb7: values as data (==, in); subscripts, slices, +, *. -/
namespace Hb
open PySem PySem.Spec PyProof.Rows L2

/-! ### values as data -/
def okS (l : List Nat) : Bool := l.all fun c => decide (c < 1114112)
mutual
def datW (st : Store) : Nat → W → Option PyData
  | _, .non => some .none
  | _, .bl b => some (.bool b)
  | _, .int i => some (.int i)
  | _, .str l => if okS l then some (.str ⟨l.toArray⟩) else none
  | k + 1, .tup ws => (datWs st k ws).map .tuple
  | k + 1, .im ws => (datWs st k ws).map .list
  | k + 1, .lr ws => (datWs st k ws).map .list
  | k + 1, .sc ws => (datWs st k ws).map .list
  | k + 1, .ref n => (match st[n]? with
    | some (.lst ws) => (datWs st k ws).map .list
    | _ => none)
  | _, _ => none
termination_by k _ => (k, 0)
def datWs (st : Store) : Nat → List W → Option (List PyData)
  | _, [] => some []
  | k, w :: ws => (datW st k w).bind fun d => (datWs st k ws).map (d :: ·)
termination_by k ws => (k, ws.length + 1)
end
theorem datWs_nil {st : Store} {k : Nat} : datWs st k [] = some [] := by rw [datWs]
theorem datWs_cons {st : Store} {k : Nat} {w : W} {ws : List W} : datWs st k (w :: ws) = (datW st k w).bind fun d => (datWs st k ws).map (d :: ·) := by rw [datWs]
section
variable {g : Glo}
theorem RW.of_x {la : Lay} {H : Hp} {w : W} {v : V} (h : RWx g la H w v) (n : isLr w = false) : RW g la H w v := h.rw n
mutual
theorem dat_of {la : Lay} {st : Store} {H : Hp} (rs : RS g la st H) : ∀ (k : Nat) {w : W} {v : V} {d : PyData}, RWx g la H w v → datW st k w = some d → Dp g.K H v d ∧ d.depth ≤ k ∧ d.canLay0 = true
  | k, .non, v, d, r, h => by
    rw [datW] at h; cases h
    rw [r.non]; exact ⟨.non, by simp [PyData.depth], by simp [PyData.canLay0]⟩
  | k, .bl b, v, d, r, h => by
    rw [datW] at h; cases h
    rw [r.bl]; exact ⟨.bl b, by simp [PyData.depth], by simp [PyData.canLay0]⟩
  | k, .int b, v, d, r, h => by
    rw [datW] at h; cases h
    rw [r.int]; exact ⟨.int b, by simp [PyData.depth], by simp [PyData.canLay0]⟩
  | k, .str l, v, d, r, h => by
    rw [datW] at h
    by_cases c : okS l = true
    · rw [if_pos c] at h
      cases h
      rw [r.str]
      refine ⟨.str _, by simp [PyData.depth], ?_⟩
      simp only [PyData.canLay0, PyData.strOk]
      unfold okS at c
      simpa using c
    · rw [if_neg c] at h; cases h
  | k + 1, .tup ws, v, d, r, h => by
    rw [datW] at h
    obtain ⟨ds, h1, rfl⟩ := Option.map_eq_some_iff.mp h
    simp only [RWx, RW] at r
    obtain ⟨a, vs, rfl, s, z, r⟩ := r
    obtain ⟨q1, q2, q3⟩ := dats_of rs k r h1
    exact ⟨.tup s q1, by simp only [PyData.depth]; omega, by simpa [PyData.canLay0] using q3⟩
  | k + 1, .im ws, v, d, r, h => by
    rw [datW] at h
    obtain ⟨ds, h1, rfl⟩ := Option.map_eq_some_iff.mp h
    simp only [RWx, RW] at r
    obtain ⟨a, vs, rfl, s, _, _, z, r⟩ := r
    obtain ⟨q1, q2, q3⟩ := dats_of rs k r h1
    exact ⟨.lst (.inl (.inl s)) q1, by simp only [PyData.depth]; omega, by simpa [PyData.canLay0] using q3⟩
  | k + 1, .lr ws, v, d, r, h => by
    rw [datW] at h
    obtain ⟨ds, h1, rfl⟩ := Option.map_eq_some_iff.mp h
    simp only [RWx] at r
    obtain ⟨a, vs, rfl, s, _, z, r⟩ := r
    obtain ⟨q1, q2, q3⟩ := dats_of rs k r h1
    exact ⟨.lst (.inl (.inl s)) q1, by simp only [PyData.depth]; omega, by simpa [PyData.canLay0] using q3⟩
  | k + 1, .sc ws, v, d, r, h => by
    rw [datW] at h
    obtain ⟨ds, h1, rfl⟩ := Option.map_eq_some_iff.mp h
    simp only [RWx, RW] at r
    obtain ⟨a, vs, rfl, s, z, r⟩ := r
    obtain ⟨q1, q2, q3⟩ := dats_of rs k r h1
    exact ⟨.lst s.sq q1, by simp only [PyData.depth]; omega, by simpa [PyData.canLay0] using q3⟩
  | k + 1, .ref n, v, d, r, h => by
    rw [datW] at h
    simp only [RWx, RW] at r
    obtain ⟨a, ha, rfl⟩ := r
    cases e : st[n]? with
    | none => rw [e] at h; cases h
    | some c =>
      rw [e] at h
      have q := rs.at_ n c a e ha
      cases c with
      | lst ws =>
        obtain ⟨ds, h1, rfl⟩ := Option.map_eq_some_iff.mp h
        obtain ⟨vs, e1, z, r⟩ := q
        obtain ⟨q1, q2, q3⟩ := dats_of rs k r h1
        exact ⟨.lst (.inl (.inl e1)) q1, by simp only [PyData.depth]; omega, by simpa [PyData.canLay0] using q3⟩
      | ins c fs => cases h
      | dic kvs => cases h
  | 0, .tup ws, v, d, r, h => by rw [datW] at h <;> first | cases h | simp
  | 0, .im ws, v, d, r, h => by rw [datW] at h <;> first | cases h | simp
  | 0, .lr ws, v, d, r, h => by rw [datW] at h <;> first | cases h | simp
  | 0, .sc ws, v, d, r, h => by rw [datW] at h <;> first | cases h | simp
  | 0, .ref n, v, d, r, h => by rw [datW] at h <;> first | cases h | simp
  | 0, .cl c, v, d, r, h => by rw [datW] at h <;> first | cases h | simp
  | k + 1, .cl c, v, d, r, h => by rw [datW] at h <;> first | cases h | simp
termination_by k w => (k, 0)
theorem dats_of {la : Lay} {st : Store} {H : Hp} (rs : RS g la st H) : ∀ (k : Nat) {ws : List W} {vs : List V} {ds : List PyData}, RWs g la H ws vs → datWs st k ws = some ds → DpAll g.K H vs ds ∧ PyData.depthAll ds ≤ k ∧ PyData.canLayAll0 ds = true
  | k, [], vs, ds, r, h => by
    rw [datWs_nil] at h; cases h
    simp only [RWs] at r
    subst r
    exact ⟨.nil, by simp [PyData.depthAll], by simp [PyData.canLayAll0]⟩
  | k, w :: ws, vs, ds, r, h => by
    rw [datWs_cons] at h
    simp only [RWs] at r
    obtain ⟨v, vs', rfl, r1, r2⟩ := r
    obtain ⟨d, h1, h2⟩ := Option.bind_eq_some_iff.mp h
    obtain ⟨ds', h3, rfl⟩ := Option.map_eq_some_iff.mp h2
    obtain ⟨q1, q2, q3⟩ := dat_of rs k (.of r1) h1
    obtain ⟨q4, q5, q6⟩ := dats_of rs k r2 h3
    exact ⟨.cons q1 q4, by simp only [PyData.depthAll]; omega, by simp [PyData.canLayAll0, q3, q6]⟩
termination_by k ws => (k, ws.length + 1)
end
theorem shaped_of {k : Nat} {d : PyData} (h1 : d.depth ≤ k) (hk : k ≤ 64) (h2 : d.canLay0 = true) : SeqAt.shaped d = true := by
  unfold SeqAt.shaped
  rw [h2, decide_eq_true (by omega : d.depth ≤ 64)]; rfl
end
/-- as data, to depth 16 -/
def dat (st : Store) (w : W) : Option PyData := datW st 16 w
def gDat2 (f : PyData → PyData → Option W) : W → W → Store → Out W := fun x y st => match dat st x, dat st y with
  | some d, some e => (match f d e with
    | some w => .ok w st
    | none => .bad)
  | _, _ => .bad
section
variable {X : Cx} {g : Glo} {Wx : WX} {a b c e o : Expr} {fa fb fc fe fo : FE} {pos p p' apos : Pos}
theorem dat2_at (hK : g.K = X.K) {f : PyData → PyData → Option W} {Wx : WX} {la : Lay} {st : Store} {H : Hp} {σ : L2.St} {Q : VK} {w1 w2 : W} {v1 v2 : V} (rs : RS g la st H) (r1 : RWx g la H w1 v1) (r2 : RWx g la H w2 v2) (h : Post g Wx la H σ (RWx g) Q (gDat2 f w1 w2 st)) :
    ∃ d e w, Dp X.K H v1 d ∧ Dp X.K H v2 e ∧ SeqAt.shaped d = true ∧ SeqAt.shaped e = true ∧ f d e = some w ∧ Post g Wx la H σ (RWx g) Q (.ok w st) := by
  unfold gDat2 at h
  cases h1 : dat st w1 with
  | none => rw [h1] at h; exact h.elim
  | some d =>
    cases h2 : dat st w2 with
    | none => rw [h1, h2] at h; exact h.elim
    | some e =>
      rw [h1, h2] at h
      simp only at h
      obtain ⟨q1, q2, q3⟩ := dat_of rs 16 r1 h1
      obtain ⟨q4, q5, q6⟩ := dat_of rs 16 r2 h2
      rw [hK] at q1 q4
      cases hf : f d e with
      | none => rw [hf] at h; exact h.elim
      | some w => rw [hf] at h; exact ⟨d, e, w, q1, q4, shaped_of q2 (by decide) q3, shaped_of q5 (by decide) q6, hf, h⟩
def gEq : W → W → Store → Out W := gDat2 fun d e => some (.bl (d.eqv e))
def gNe : W → W → Store → Out W := gDat2 fun d e => some (.bl (!d.eqv e))
theorem vo_eq (hK : g.K = X.K) : VO g (rEqD X.K) gEq := by
  intro Wx la st H σ Q w1 w2 v1 v2 rs r1 r2 h
  obtain ⟨d, e, w, h1, h2, h3, h4, h5, h6⟩ := dat2_at hK rs r1 r2 h
  cases h5
  exact ⟨d, e, h1, h2, h3, h4, h6.here rs .mkB⟩
theorem vo_ne (hK : g.K = X.K) : VO g (rNeD X.K) gNe := by
  intro Wx la st H σ Q w1 w2 v1 v2 rs r1 r2 h
  obtain ⟨d, e, w, h1, h2, h3, h4, h5, h6⟩ := dat2_at hK rs r1 r2 h
  cases h5
  exact ⟨d, e, h1, h2, h3, h4, h6.here rs .mkB⟩
/-- in a list -/
def gIn (pos : Bool) : W → W → Store → Out W := gDat2 fun d e => match e with
  | .list ds => some (.bl (if pos then ds.any fun z => z.eqv d else !ds.any fun z => z.eqv d))
  | _ => none
theorem vo_in (hK : g.K = X.K) : VO g (rInD X.K) (gIn true) := by
  intro Wx la st H σ Q w1 w2 v1 v2 rs r1 r2 h
  obtain ⟨d, e, w, h1, h2, h3, h4, h5, h6⟩ := dat2_at hK rs r1 r2 h
  cases e <;> cases h5
  exact ⟨d, _, h1, h2, h3, h4, h6.here rs .mkB⟩
theorem vo_notin (hK : g.K = X.K) : VO g (rNotInD X.K) (gIn false) := by
  intro Wx la st H σ Q w1 w2 v1 v2 rs r1 r2 h
  obtain ⟨d, e, w, h1, h2, h3, h4, h5, h6⟩ := dat2_at hK rs r1 r2 h
  cases e <;> cases h5
  exact ⟨d, _, h1, h2, h3, h4, h6.here rs .mkB⟩
theorem dt_eq (hK : g.K = X.K) (hu : X.A.units + 64 < cLine) (ha : DE X g Wx a fa) (hb : DE X g Wx b fb) : DT X g Wx (.Compare a [.Eq] [b] pos) (tOf (eBin gEq fa fb)) := dt_cmp (op_eqD hu) (vo_eq hK) (nobehind _ (by decide) (by decide)) ha hb
theorem dt_ne (hK : g.K = X.K) (hu : X.A.units + 64 < cLine) (ha : DE X g Wx a fa) (hb : DE X g Wx b fb) : DT X g Wx (.Compare a [.NotEq] [b] pos) (tOf (eBin gNe fa fb)) := dt_cmp (op_neD hu) (vo_ne hK) (nobehind _ (by decide) (by decide)) ha hb
theorem de_eq (hK : g.K = X.K) (hu : X.A.units + 64 < cLine) (ha : DE X g Wx a fa) (hb : DE X g Wx b fb) : DE X g Wx (.Compare a [.Eq] [b] pos) (eBin gEq fa fb) := de_cmp (op_eqD hu) (vo_eq hK) (nobehind _ (by decide) (by decide)) ha hb
theorem de_ne (hK : g.K = X.K) (hu : X.A.units + 64 < cLine) (ha : DE X g Wx a fa) (hb : DE X g Wx b fb) : DE X g Wx (.Compare a [.NotEq] [b] pos) (eBin gNe fa fb) := de_cmp (op_neD hu) (vo_ne hK) (nobehind _ (by decide) (by decide)) ha hb
theorem dt_in (hK : g.K = X.K) (hu : X.A.units + 65 < cLine) (ha : DE X g Wx a fa) (hb : DE X g Wx b fb) (hm : behindInMarks .In b = false := by rfl) : DT X g Wx (.Compare a [.In] [b] pos) (tOf (eBin (gIn true) fa fb)) := dt_cmp (op_inD hu) (vo_in hK) hm ha hb
theorem dt_notin (hK : g.K = X.K) (hu : X.A.units + 65 < cLine) (ha : DE X g Wx a fa) (hb : DE X g Wx b fb) (hm : behindInMarks .NotIn b = false := by rfl) : DT X g Wx (.Compare a [.NotIn] [b] pos) (tOf (eBin (gIn false) fa fb)) := dt_cmp (op_notInD hu) (vo_notin hK) hm ha hb
theorem de_in (hK : g.K = X.K) (hu : X.A.units + 65 < cLine) (ha : DE X g Wx a fa) (hb : DE X g Wx b fb) (hm : behindInMarks .In b = false := by rfl) : DE X g Wx (.Compare a [.In] [b] pos) (eBin (gIn true) fa fb) := de_cmp (op_inD hu) (vo_in hK) hm ha hb
theorem de_notin (hK : g.K = X.K) (hu : X.A.units + 65 < cLine) (ha : DE X g Wx a fa) (hb : DE X g Wx b fb) (hm : behindInMarks .NotIn b = false := by rfl) : DE X g Wx (.Compare a [.NotIn] [b] pos) (eBin (gIn false) fa fb) := de_cmp (op_notInD hu) (vo_notin hK) hm ha hb
theorem dt_lt (ha : DE X g Wx a fa) (hb : DE X g Wx b fb) : DT X g Wx (.Compare a [.Lt] [b] pos) (tOf (eBin gLt fa fb)) := dt_cmp op_lt vo_lt (nobehind _ (by decide) (by decide)) ha hb
theorem dt_le (ha : DE X g Wx a fa) (hb : DE X g Wx b fb) : DT X g Wx (.Compare a [.LtE] [b] pos) (tOf (eBin gLe fa fb)) := dt_cmp op_le vo_le (nobehind _ (by decide) (by decide)) ha hb
theorem dt_gt (ha : DE X g Wx a fa) (hb : DE X g Wx b fb) : DT X g Wx (.Compare a [.Gt] [b] pos) (tOf (eBin gGt fa fb)) := dt_cmp op_gt vo_gt (nobehind _ (by decide) (by decide)) ha hb
theorem dt_ge (ha : DE X g Wx a fa) (hb : DE X g Wx b fb) : DT X g Wx (.Compare a [.GtE] [b] pos) (tOf (eBin gGe fa fb)) := dt_cmp op_ge vo_ge (nobehind _ (by decide) (by decide)) ha hb
theorem dt_is (ha : DE X g Wx a fa) (hb : DE X g Wx b fb) : DT X g Wx (.Compare a [.Is] [b] pos) (tOf (eBin gIsN fa fb)) := dt_cmp op_isN vo_isN (nobehind _ (by decide) (by decide)) ha hb
theorem dt_isnot (ha : DE X g Wx a fa) (hb : DE X g Wx b fb) : DT X g Wx (.Compare a [.IsNot] [b] pos) (tOf (eBin gNotN fa fb)) := dt_cmp op_notN vo_notN (nobehind _ (by decide) (by decide)) ha hb
theorem de_lt (ha : DE X g Wx a fa) (hb : DE X g Wx b fb) : DE X g Wx (.Compare a [.Lt] [b] pos) (eBin gLt fa fb) := de_cmp op_lt vo_lt (nobehind _ (by decide) (by decide)) ha hb
theorem de_le (ha : DE X g Wx a fa) (hb : DE X g Wx b fb) : DE X g Wx (.Compare a [.LtE] [b] pos) (eBin gLe fa fb) := de_cmp op_le vo_le (nobehind _ (by decide) (by decide)) ha hb
theorem de_gt (ha : DE X g Wx a fa) (hb : DE X g Wx b fb) : DE X g Wx (.Compare a [.Gt] [b] pos) (eBin gGt fa fb) := de_cmp op_gt vo_gt (nobehind _ (by decide) (by decide)) ha hb
theorem de_ge (ha : DE X g Wx a fa) (hb : DE X g Wx b fb) : DE X g Wx (.Compare a [.GtE] [b] pos) (eBin gGe fa fb) := de_cmp op_ge vo_ge (nobehind _ (by decide) (by decide)) ha hb
theorem de_is (ha : DE X g Wx a fa) (hb : DE X g Wx b fb) : DE X g Wx (.Compare a [.Is] [b] pos) (eBin gIsN fa fb) := de_cmp op_isN vo_isN (nobehind _ (by decide) (by decide)) ha hb
theorem de_isnot (ha : DE X g Wx a fa) (hb : DE X g Wx b fb) : DE X g Wx (.Compare a [.IsNot] [b] pos) (eBin gNotN fa fb) := de_cmp op_notN vo_notN (nobehind _ (by decide) (by decide)) ha hb
/-! ### subscripts -/
def atW (ws : List W) (i : Int) : Option W := (ixN ws.length i).bind fun j => ws[j]?
def gIx : W → W → Store → Out W := fun x y st => match x, y with
  | .str l, .int i => if l.length ≤ 1000000 then (match (ixN l.length i).bind fun j => l[j]? with
    | some c => .ok (.str [c]) st
    | none => .bad) else .bad
  | x, .int i => (match seqW st x with
    | some ws => (match atW ws i with
      | some w => .ok w st
      | none => .bad)
    | none => .bad)
  | _, _ => .bad
theorem at_of {la : Lay} {H : Hp} {ws : List W} {vs : List V} {i : Int} {w : W} (r : RWs g la H ws vs) (h : atW ws i = some w) : ∃ v, atI vs i = some v ∧ RW g la H w v := by
  unfold atW at h
  obtain ⟨j, h1, h2⟩ := Option.bind_eq_some_iff.mp h
  obtain ⟨v, h3, h4⟩ := r.get h2
  refine ⟨v, ?_, h4⟩
  unfold atI
  rw [r.length, h1]; exact h3
theorem vo_ix (hK : g.K = X.K) : VO g (fun x y H Q => (rIxL X.K x y H Q ∨ rIxT X.K x y H Q) ∨ rIxS x y H Q) gIx := by
  intro Wx la st H σ Q w1 w2 v1 v2 rs r1 r2 h
  have key : ∀ {i : Int}, w2 = .int i → (match seqW st w1 with
    | some ws => (match atW ws i with
      | some w => (.ok w st : Out W)
      | none => .bad)
    | none => .bad) = gIx w1 w2 st → (rIxL X.K v1 v2 H Q ∨ rIxT X.K v1 v2 H Q) := by
    rintro i rfl he
    rw [← he] at h
    cases hw : seqW st w1 with
    | none => rw [hw] at h; exact h.elim
    | some ws =>
      rw [hw] at h
      simp only at h
      cases ha : atW ws i with
      | none => rw [ha] at h; exact h.elim
      | some w =>
        rw [ha] at h
        obtain ⟨q, vs, rfl, hs, z, r⟩ := seq_of rs r1 hw
        obtain ⟨v, h3, h4⟩ := at_of r ha
        rw [hK] at hs
        rcases hs with hs | hs
        · exact .inl ⟨q, vs, i, v, rfl, r2.int, hs, h3, h.here rs (.of h4)⟩
        · exact .inr ⟨q, vs, i, v, rfl, r2.int, hs, h3, h.here rs (.of h4)⟩
  cases w2 <;> try (cases w1 <;> exact h.elim)
  rename_i i
  cases w1 <;> try exact .inl (key rfl rfl)
  rename_i l
  unfold gIx at h
  simp only at h
  by_cases c : l.length ≤ 1000000
  · rw [if_pos c] at h
    cases ha : (ixN l.length i).bind fun j => l[j]? with
    | none => rw [ha] at h; exact h.elim
    | some x =>
      rw [ha] at h
      refine .inr ⟨_, i, x, r1.str, r2.int, ?_, ?_, h.here rs .mkS⟩
      · rw [str_len]; exact Nat.le_trans c line_ge
      · unfold atI; exact ha
  · rw [if_neg c] at h; exact h.elim
theorem de_ix (hK : g.K = X.K) (ha : DE X g Wx a fa) (hb : DE X g Wx b fb) (hs : PlainIx b := by intro _ _; rfl) : DE X g Wx (.Subscript a b pos) (eBin gIx fa fb) :=
  PE.imp (pe_ix (IxR.or (IxR.or ix_list ix_tup) ix_str) ha hb hs) fun _ _ _ h => S.two (vo_ix hK) h
/-! ### slices -/
def cutW (ws : List W) (lo hi : Option Int) : List W := (ws.drop (HT.sIx ws.length 0 lo)).take (HT.sIx ws.length ws.length hi - HT.sIx ws.length 0 lo)
theorem cut_of {la : Lay} {H : Hp} {ws : List W} {vs : List V} {lo hi : Option Int} (r : RWs g la H ws vs) : RWs g la H (cutW ws lo hi) (cutV vs lo hi) := by
  unfold cutW cutV
  rw [r.length]
  exact (r.drop _).take _
/-- an end of a slice -/
abbrev FO := Env → Store → Out (Option Int)
def oNone : FO := fun _ st => .ok none st
def oSome (fe : FE) : FO := fun env st => (fe env st).bind fun w st1 => match w with
  | .int i => .ok (some i) st1
  | _ => .bad
def DO (X : Cx) (g : Glo) (Wx : WX) (e : Option Expr) (f : FO) : Prop := PO X e (S g Wx REq f)
theorem PO.imp {X : Cx} {e : Option Expr} {t t' : TO} (h : PO X e t) (i : ∀ σ H Q, t' σ H Q → t σ H Q) : PO X e t' := ⟨fun pins s σ H Q I p => h.run pins s σ H Q I (i σ H Q p)⟩
theorem do_none : DO X g Wx none oNone := PO.imp po_none fun σ H Q ⟨B, env, la, st, R, h⟩ => h la H none .refl R.rs rfl
theorem do_some (he : DE X g Wx e fe) : DO X g Wx (some e) (oSome fe) := by
  refine PO.imp (po_some he) fun σ H Q ⟨B, env, la, st, R, h⟩ => ?_
  refine S.step R h fun w st1 la1 H1 v e1 x1 R1 r1 p1 => ?_
  cases w <;> try exact p1.elim
  exact ⟨_, r1.int, p1 la1 H1 _ .refl R1.rs rfl⟩
/-- a[lo:hi] of a list: a new one -/
def lCut (fe : FE) (fl fh : FO) : Env → Store → Out (List W) := fun env st => (fe env st).bind fun w st1 => (fl env st1).bind fun lo st2 => (fh env st2).bind fun hi st3 => match lstW st3 w with
  | some ws => .ok (cutW ws lo hi) st3
  | none => .bad
variable {lo hi : Option Expr} {fl fh : FO}
theorem dl_cut (hK : g.K = X.K) (he : DE X g Wx e fe) (hl : DO X g Wx lo fl) (hh : DO X g Wx hi fh) : DL X g Wx (.Subscript e (.Slice lo hi none p) pos) (lCut fe fl fh) := by
  refine PE.imp (pe_slice sl_list he hl hh) fun σ H Q ⟨B, env, la, st, R, h⟩ => ?_
  refine SL.step R h fun w st1 la1 H1 v e1 x1 R1 r1 p1 => ?_
  refine SL.step R1 p1 fun l st2 la2 H2 l' e2 x2 R2 r2 p2 => ?_
  refine SL.step R2 p2 fun u st3 la3 H3 u' e3 x3 R3 r3 p3 => ?_
  cases r2; cases r3
  cases hw : lstW st3 w with
  | none => rw [hw] at p3; exact p3.elim
  | some ws =>
    rw [hw] at p3
    obtain ⟨q, vs, rfl, hs, z, r⟩ := lst_of R3.rs ((r1.extE R1.rs x2).extE R2.rs x3) hw
    rw [hK] at hs
    exact ⟨q, vs, rfl, hs, fun l hl => p3 la3 H3 l _ .refl R3.rs hl (Nat.le_trans (cutV_length _ _ _) z) (cut_of r)⟩
/-- .. of a tuple, a text -/
def eCut (fe : FE) (fl fh : FO) : FE := fun env st => (fe env st).bind fun w st1 => (fl env st1).bind fun lo st2 => (fh env st2).bind fun hi st3 => match w with
  | .tup ws => .ok (.tup (cutW ws lo hi)) st3
  | .str l => if l.length ≤ 1000000 then .ok (.str ((l.drop (HT.sIx l.length 0 lo)).take (HT.sIx l.length l.length hi - HT.sIx l.length 0 lo))) st3 else .bad
  | _ => .bad
theorem cut_all {α : Type} (ws : List α) {lo hi : Option Int} (h : HT.sIx ws.length 0 lo = 0 ∧ HT.sIx ws.length ws.length hi = ws.length) : (ws.drop (HT.sIx ws.length 0 lo)).take (HT.sIx ws.length ws.length hi - HT.sIx ws.length 0 lo) = ws := by
  rw [h.1, h.2]; simp
theorem de_cut (hK : g.K = X.K) (he : DE X g Wx e fe) (hl : DO X g Wx lo fl) (hh : DO X g Wx hi fh) : DE X g Wx (.Subscript e (.Slice lo hi none p) pos) (eCut fe fl fh) := by
  refine PE.imp (pe_slice (SlR.or sl_tupA sl_str) he hl hh) fun σ H Q ⟨B, env, la, st, R, h⟩ => ?_
  refine S.step R h fun w st1 la1 H1 v e1 x1 R1 r1 p1 => ?_
  refine S.step R1 p1 fun l st2 la2 H2 l' e2 x2 R2 r2 p2 => ?_
  refine S.step R2 p2 fun u st3 la3 H3 u' e3 x3 R3 r3 p3 => ?_
  cases r2; cases r3
  have r4 := (r1.extE R1.rs x2).extE R2.rs x3
  cases w <;> try exact p3.elim
  · rename_i t
    simp only at p3
    by_cases c : t.length ≤ 1000000
    · rw [if_pos c] at p3
      refine .inr ⟨_, r4.str, ?_, ?_⟩
      · rw [str_len]; exact Nat.le_trans c line_ge
      · unfold cutS
        rw [str_len]
        exact p3.here R3.rs .mkS
    · rw [if_neg c] at p3; exact p3.elim
  · rename_i ws
    simp only at p3
    simp only [RWx, RW] at r4
    obtain ⟨a, vs, rfl, s, z, r⟩ := r4
    refine .inl ⟨a, vs, rfl, by rw [← hK]; exact s, fun hw => ?_, fun hw q hq => ?_⟩
    · have e0 : cutW ws l u = ws := by
        unfold cutW
        rw [r.length] at hw
        exact cut_all ws hw
      rw [e0] at p3
      refine p3.here R3.rs ?_
      simp only [RWx, RW]
      exact ⟨a, vs, rfl, s, z, r⟩
    · refine p3 la3 _ _ (.fresh hq) (R3.rs.fresh hq) ?_
      simp only [RWx, RW]
      exact ⟨q, _, rfl, .of upd_same, Nat.le_trans (cutV_length _ _ _) z, (cut_of r).ext R3.rs (ExtE.fresh hq).ext⟩
/-! ### +, * of lists, tuples -/
/-- a list that may be added: not a module's own -/
def lstM (st : Store) : W → Option (List W)
  | .im ws => some ws
  | .lr ws => some ws
  | .ref n => (match st[n]? with
    | some (.lst ws) => some ws
    | _ => none)
  | _ => none
theorem lstM_of {la : Lay} {st : Store} {H : Hp} {w : W} {v : V} {ws : List W} (rs : RS g la st H) (r : RWx g la H w v) (h : lstM st w = some ws) :
    ∃ a vs, v = .ref a ∧ H a = some (.lst vs) ∧ vs.length ≤ sizeLine ∧ RWs g la H ws vs := by
  cases w <;> simp only [lstM] at h <;> try cases h
  · rename_i n
    simp only [RWx, RW] at r
    obtain ⟨a, ha, q⟩ := r
    cases e : st[n]? with
    | none => rw [e] at h; cases h
    | some c =>
      rw [e] at h
      have q2 := rs.at_ n c a e ha
      cases c with
      | lst us => cases h; obtain ⟨vs, e1, z, r⟩ := q2; exact ⟨a, vs, q, e1, z, r⟩
      | ins c fs => cases h
      | dic k => cases h
  · simp only [RWx, RW] at r
    obtain ⟨p, vs, q, e, _, _, z, r⟩ := r
    exact ⟨p, vs, q, e, z, r⟩
  · simp only [RWx] at r
    obtain ⟨p, vs, q, e, _, z, r⟩ := r
    exact ⟨p, vs, q, e, z, r⟩
def lBin (gop : W → W → Store → Out (List W)) (fa fb : FE) : Env → Store → Out (List W) := fun env st => (fa env st).bind fun x st1 => (fb env st1).bind fun y st2 => gop x y st2
def VOL (g : Glo) (r : R2) (gop : W → W → Store → Out (List W)) : Prop := ∀ (Wx : WX) (la : Lay) (st : Store) (H : Hp) (σ : L2.St) (Q : VK) (w1 w2 : W) (v1 v2 : V),
  RS g la st H → RWx g la H w1 v1 → RWx g la H w2 v2 → PostL g Wx la H σ Q (gop w1 w2 st) → r v1 v2 H Q
theorem dl_op {op : Operator} {r : R2} {gop : W → W → Store → Out (List W)} (ho : OpR X (binaryOp op) r) (hg : VOL g r gop) (ha : DE X g Wx a fa) (hb : DE X g Wx b fb) : DL X g Wx (.BinOp a op b pos) (lBin gop fa fb) :=
  PE.imp (pe_op ho ha hb) fun σ H Q ⟨B, env, la, st, R, h⟩ => by
    refine SL.step R h fun x st1 la1 H1 v1 e1 x1 R1 r1 p1 => ?_
    refine SL.step R1 p1 fun y st2 la2 H2 v2 e2 x2 R2 r2 p2 => ?_
    exact hg Wx la2 st2 H2 σ Q x y v1 v2 R2.rs (r1.extE R1.rs x2) r2 p2
def gCat : W → W → Store → Out (List W) := fun x y st => match lstM st x, lstM st y with
  | some ws, some us => if ws.length + us.length ≤ 1000000 then .ok (ws ++ us) st else .bad
  | _, _ => .bad
theorem vo_cat : VOL g rCat gCat := by
  intro Wx la st H σ Q w1 w2 v1 v2 rs r1 r2 h
  unfold gCat at h
  cases h1 : lstM st w1 with
  | none => rw [h1] at h; exact h.elim
  | some ws =>
    cases h2 : lstM st w2 with
    | none => rw [h1, h2] at h; exact h.elim
    | some us =>
      rw [h1, h2] at h
      simp only at h
      by_cases c : ws.length + us.length ≤ 1000000
      · rw [if_pos c] at h
        obtain ⟨a, vs, rfl, e1, z1, q1⟩ := lstM_of rs r1 h1
        obtain ⟨b, vs2, rfl, e2, z2, q2⟩ := lstM_of rs r2 h2
        have hz : vs.length + vs2.length ≤ sizeLine := by rw [q1.length, q2.length]; exact Nat.le_trans c line_ge
        exact ⟨a, b, vs, vs2, rfl, rfl, e1, e2, hz, fun l hl => h la H l _ .refl rs hl (by rw [List.length_append]; exact hz) (q1.append q2)⟩
      · rw [if_neg c] at h; exact h.elim
theorem dl_cat (ha : DE X g Wx a fa) (hb : DE X g Wx b fb) : DL X g Wx (.BinOp a .Add b pos) (lBin gCat fa fb) := dl_op op_cat vo_cat ha hb
def gRep : W → W → Store → Out (List W) := fun x y st => match lstM st x, y with
  | some ws, .int k => if -1000000 ≤ k ∧ k ≤ 1000000 ∧ ws.length * k.toNat ≤ 1000000 then .ok (List.replicate k.toNat ws).flatten st else .bad
  | _, _ => .bad
theorem RWs.rep {la : Lay} {H : Hp} {ws : List W} {vs : List V} (r : RWs g la H ws vs) : ∀ k : Nat, RWs g la H (List.replicate k ws).flatten (List.replicate k vs).flatten
  | 0 => .nil
  | k + 1 => by
    simp only [List.replicate_succ, List.flatten_cons]
    exact r.append (RWs.rep r k)
theorem vo_rep : VOL g rRep gRep := by
  intro Wx la st H σ Q w1 w2 v1 v2 rs r1 r2 h
  unfold gRep at h
  cases h1 : lstM st w1 with
  | none => rw [h1] at h; exact h.elim
  | some ws =>
    cases w2 <;> (rw [h1] at h; simp only at h) <;> try exact h.elim
    rename_i k
    by_cases c : -1000000 ≤ k ∧ k ≤ 1000000 ∧ ws.length * k.toNat ≤ 1000000
    · rw [if_pos c] at h
      obtain ⟨a, vs, rfl, e1, z1, q1⟩ := lstM_of rs r1 h1
      have hz : vs.length * k.toNat ≤ sizeLine := by rw [q1.length]; exact Nat.le_trans c.2.2 line_ge
      refine ⟨a, k, vs, rfl, r2.int, e1, by omega, by omega, hz, fun l hl => h la H l _ .refl rs hl ?_ (q1.rep _)⟩
      rw [List.length_flatten]
      simp only [List.map_replicate, List.sum_replicate_nat]
      rw [Nat.mul_comm]; exact hz
    · rw [if_neg c] at h; exact h.elim
theorem dl_rep (ha : DE X g Wx a fa) (hb : DE X g Wx b fb) : DL X g Wx (.BinOp a .Mult b pos) (lBin gRep fa fb) := dl_op op_rep vo_rep ha hb
def gCatT : W → W → Store → Out W := fun x y st => match x, y with
  | .tup ws, .tup us => if ws.length + us.length ≤ 1000000 then .ok (.tup (ws ++ us)) st else .bad
  | _, _ => .bad
theorem vo_catT (hK : g.K = X.K) : VO g (rCatA X.K) gCatT := by
  intro Wx la st H σ Q w1 w2 v1 v2 rs r1 r2 h
  unfold gCatT at h
  cases w1 <;> try exact h.elim
  cases w2 <;> try exact h.elim
  rename_i ws us
  simp only at h
  by_cases c : ws.length + us.length ≤ 1000000
  · rw [if_pos c] at h
    simp only [RWx, RW] at r1 r2
    obtain ⟨a, vs, rfl, s1, z1, q1⟩ := r1
    obtain ⟨b, vs2, rfl, s2, z2, q2⟩ := r2
    have hz : vs.length + vs2.length ≤ sizeLine := by rw [q1.length, q2.length]; exact Nat.le_trans c line_ge
    refine ⟨a, b, vs, vs2, rfl, rfl, by rw [← hK]; exact s1, by rw [← hK]; exact s2, hz, fun e1 => ?_, fun e1 e2 => ?_, fun e1 e2 q hq => ?_⟩
    · have : ws = [] := List.length_eq_zero_iff.mp (by rw [← q1.length, e1]; rfl)
      subst this
      refine h.here rs ?_
      simp only [RWx, RW, List.nil_append]
      exact ⟨b, vs2, rfl, s2, z2, q2⟩
    · have : us = [] := List.length_eq_zero_iff.mp (by rw [← q2.length, e2]; rfl)
      subst this
      refine h.here rs ?_
      simp only [RWx, RW, List.append_nil]
      exact ⟨a, vs, rfl, s1, z1, q1⟩
    · refine h la _ _ (.fresh hq) (rs.fresh hq) ?_
      simp only [RWx, RW]
      exact ⟨q, _, rfl, .of upd_same, by rw [List.length_append]; exact hz, (q1.append q2).ext rs (ExtE.fresh hq).ext⟩
  · rw [if_neg c] at h; exact h.elim
theorem de_addT (hK : g.K = X.K) (ha : DE X g Wx a fa) (hb : DE X g Wx b fb) : DE X g Wx (.BinOp a .Add b pos) (eBin gCatT fa fb) := de_op op_catA (vo_catT hK) ha hb
end
end Hb

end

section
set_option Elab.async false
set_option linter.all false
set_option maxRecDepth 100000
set_option maxHeartbeats 4000000
/-! Hb8: lists' methods, items stored, del, isinstance. -/
namespace Hb
open PySem PySem.Spec PyProof.Rows L2

section
variable {X : Cx} {g : Glo} {Wx : WX} {a b c e o : Expr} {fa fb fc fe fo : FE} {pos p p' apos : Pos}
/-! ### a list of the store is rewritten -/
theorem wr_lst {la : Lay} {st : Store} {H : Hp} {n : Nat} {a : Addr} {ws : List W} {vs : List V} (rs : RS g la st H) (ha : la.io[n]? = some a) (z : vs.length ≤ sizeLine) (r : RWs g la H ws vs) :
    ExtE la H la (upd H a (.lst vs)) ∧ RS g la (st.set n (.lst ws)) (upd H a (.lst vs)) :=
  ⟨.write ha, rs.write ha ⟨vs, upd_same, z, r.ext rs (ExtE.write ha).ext⟩⟩
/-- the store's list at a reference -/
def lstR (st : Store) : W → Option (Nat × List W)
  | .ref n => (match st[n]? with
    | some (.lst ws) => some (n, ws)
    | _ => none)
  | _ => none
theorem lstR_of {la : Lay} {st : Store} {H : Hp} {w : W} {v : V} {n : Nat} {ws : List W} (rs : RS g la st H) (r : RWx g la H w v) (h : lstR st w = some (n, ws)) :
    ∃ a vs, v = .ref a ∧ la.io[n]? = some a ∧ H a = some (.lst vs) ∧ vs.length ≤ sizeLine ∧ RWs g la H ws vs := by
  cases w <;> simp only [lstR] at h <;> try cases h
  rename_i m
  simp only [RWx, RW] at r
  obtain ⟨a, ha, q⟩ := r
  cases e : st[m]? with
  | none => rw [e] at h; cases h
  | some c =>
    rw [e] at h
    have q2 := rs.at_ m c a e ha
    cases c with
    | lst us =>
      simp only [Option.some.injEq, Prod.mk.injEq] at h
      obtain ⟨h1, h2⟩ := h
      subst h1 h2
      obtain ⟨vs, e1, z, r⟩ := q2; exact ⟨a, vs, q, ha, e1, z, r⟩
    | ins c fs => cases h
    | dic k => cases h
/-! ### methods -/
def isL (st : Store) (w : W) : Bool := (lstW st w).isSome
theorem isL_ty (hK : g.K = X.K) {la : Lay} {st : Store} {H : Hp} {w : W} {v : V} (rs : RS g la st H) (r : RWx g la H w v) (h : isL st w = true) : tyV X.K "list" v H := by
  unfold isL at h
  obtain ⟨ws, hw⟩ := Option.isSome_iff_exists.mp h
  obtain ⟨a, vs, rfl, hs, _⟩ := lst_of rs r hw
  rw [hK] at hs
  exact .inl ⟨rfl, vs, hs⟩
def M0 (g : Glo) (r : V → List V → Hp → VK → Prop) (gop : W → Store → Out W) : Prop := ∀ (Wx : WX) (la : Lay) (st : Store) (H : Hp) (σ : L2.St) (Q : VK) (w : W) (v : V), RS g la st H → RWx g la H w v → Post g Wx la H σ (RWx g) Q (gop w st) → r v [] H Q
def M1 (g : Glo) (r : V → List V → Hp → VK → Prop) (gop : W → W → Store → Out W) : Prop := ∀ (Wx : WX) (la : Lay) (st : Store) (H : Hp) (σ : L2.St) (Q : VK) (w w2 : W) (v v2 : V), RS g la st H → RWx g la H w v → RWx g la H w2 v2 → Post g Wx la H σ (RWx g) Q (gop w w2 st) → r v [v2] H Q
def M2 (g : Glo) (r : V → List V → Hp → VK → Prop) (gop : W → W → W → Store → Out W) : Prop := ∀ (Wx : WX) (la : Lay) (st : Store) (H : Hp) (σ : L2.St) (Q : VK) (w w2 w3 : W) (v v2 v3 : V), RS g la st H → RWx g la H w v → RWx g la H w2 v2 → RWx g la H w3 v3 → Post g Wx la H σ (RWx g) Q (gop w w2 w3 st) → r v [v2, v3] H Q
def eM0 (gop : W → Store → Out W) (fo : FE) : FE := fun env st => (fo env st).bind fun x st1 => if isL st1 x then gop x st1 else .bad
def eM1 (gop : W → W → Store → Out W) (fo fa : FE) : FE := fun env st => (fo env st).bind fun x st1 => if isL st1 x then (fa env st1).bind fun y st2 => gop x y st2 else .bad
def eM2 (gop : W → W → W → Store → Out W) (fo fa fb : FE) : FE := fun env st => (fo env st).bind fun x st1 => if isL st1 x then (fa env st1).bind fun y st2 => (fb env st2).bind fun z st3 => gop x y z st3 else .bad
variable {name : Str} {id : String} {r : V → List V → Hp → VK → Prop}
theorem de_m0 {gop : W → Store → Out W} (hK : g.K = X.K) (hv : M0 g r gop) (slot : Slot "list" name id) (hty : typeOf (.builtin id) = pure (.type "method_descriptor")) (hm : MtR X id r) (ho : DE X g Wx o fo)
    (hbase : attributeBase o name X.env (eval o X.env) = eval o X.env := by rfl) (hline : (apos.endLine == pos.line) = true := by rfl) : DE X g Wx (.Call (.Attribute o name apos) [] [] pos) (eM0 gop fo) := by
  refine PE.imp (pe_bm0 PySem.F.plainAttrs_list slot hty hm ho hbase hline) fun σ H Q ⟨B, env, la, st, R, h⟩ => ?_
  refine S.step R h fun x st1 la1 H1 v1 e1 x1 R1 r1 p1 => ?_
  by_cases c : isL st1 x = true
  · rw [if_pos c] at p1
    exact ⟨isL_ty hK R1.rs r1 c, hv Wx la1 st1 H1 σ Q x v1 R1.rs r1 p1⟩
  · rw [if_neg c] at p1; exact p1.elim
theorem de_m1 {gop : W → W → Store → Out W} (hK : g.K = X.K) (hv : M1 g r gop) (slot : Slot "list" name id) (hty : typeOf (.builtin id) = pure (.type "method_descriptor")) (hm : MtR X id r) (ho : DE X g Wx o fo) (ha : DE X g Wx a fa)
    (hbase : attributeBase o name X.env (eval o X.env) = eval o X.env := by rfl)
    (hfew : ((backTo pos (starEach [a] X.env)).all (fun x => !x.1) && (backToKw pos (keywordEach [] X.env)).all (fun x => x.1.isSome) && decide (([a] : List Expr).length + ([] : List Keyword).length + (if ([] : List Keyword).isEmpty then 0 else 1) < 30)) = true := by rfl)
    (hline : (apos.endLine == pos.line) = true := by rfl) (hs : starEach [a] X.env = (false, eval a X.env) :: starEach [] X.env := by rfl) (hpl : (backTo pos (starEach [] X.env)).any (·.1) = false := by rfl) :
    DE X g Wx (.Call (.Attribute o name apos) [a] [] pos) (eM1 gop fo fa) := by
  refine PE.imp (pe_bm PySem.F.plainAttrs_list slot hty hm ho (da_1 ha hs) hbase hfew hline hs hpl) fun σ H Q ⟨B, env, la, st, R, h⟩ => ?_
  refine S.step R h fun x st1 la1 H1 v1 e1 x1 R1 r1 p1 => ?_
  by_cases c : isL st1 x = true
  · rw [if_pos c] at p1
    refine ⟨isL_ty hK R1.rs r1 c, ?_⟩
    refine S.step R1 p1 fun y st2 la2 H2 vs e2 x2 R2 r2 p2 => ?_
    obtain ⟨v2, rfl, r2⟩ := r2
    exact hv Wx la2 st2 H2 σ Q x y v1 v2 R2.rs (r1.extE R1.rs x2) r2 p2
  · rw [if_neg c] at p1; exact p1.elim
theorem de_m2 {gop : W → W → W → Store → Out W} (hK : g.K = X.K) (hv : M2 g r gop) (slot : Slot "list" name id) (hty : typeOf (.builtin id) = pure (.type "method_descriptor")) (hm : MtR X id r) (ho : DE X g Wx o fo) (ha : DE X g Wx a fa) (hb : DE X g Wx b fb)
    (hbase : attributeBase o name X.env (eval o X.env) = eval o X.env := by rfl)
    (hfew : ((backTo pos (starEach [a, b] X.env)).all (fun x => !x.1) && (backToKw pos (keywordEach [] X.env)).all (fun x => x.1.isSome) && decide (([a, b] : List Expr).length + ([] : List Keyword).length + (if ([] : List Keyword).isEmpty then 0 else 1) < 30)) = true := by rfl)
    (hline : (apos.endLine == pos.line) = true := by rfl) (hs : starEach [a, b] X.env = (false, eval a X.env) :: starEach [b] X.env := by rfl) (hs2 : starEach [b] X.env = (false, eval b X.env) :: starEach [] X.env := by rfl) (hpl : (backTo pos (starEach [b] X.env)).any (·.1) = false := by rfl) :
    DE X g Wx (.Call (.Attribute o name apos) [a, b] [] pos) (eM2 gop fo fa fb) := by
  refine PE.imp (pe_bm PySem.F.plainAttrs_list slot hty hm ho (da_2 ha hb hs hs2) hbase hfew hline hs hpl) fun σ H Q ⟨B, env, la, st, R, h⟩ => ?_
  refine S.step R h fun x st1 la1 H1 v1 e1 x1 R1 r1 p1 => ?_
  by_cases c : isL st1 x = true
  · rw [if_pos c] at p1
    refine ⟨isL_ty hK R1.rs r1 c, ?_⟩
    refine ⟨B, env, la1, st1, R1, ?_⟩
    unfold aTwo
    cases ea : fa env st1 with
    | ok y st2 =>
      rw [ea] at p1
      simp only [Out.bind] at p1 ⊢
      cases eb : fb env st2 with
      | ok z st3 =>
        rw [eb] at p1
        simp only at p1 ⊢
        rintro la' H' vs x3 rs ⟨v2, v3, rfl, q1, q2⟩
        exact hv Wx la' st3 H' σ Q x y z v1 v2 v3 rs (r1.extE R1.rs x3) q1 q2 (p1.later x3)
      | exc c fs st3 => rw [eb] at p1; exact p1
      | bad => rw [eb] at p1; exact p1
    | exc c fs st2 => rw [ea] at p1; exact p1
    | bad => rw [ea] at p1; exact p1
  · rw [if_neg c] at p1; exact p1.elim
/-! append -/
def gApp : W → W → Store → Out W := fun x y st => if isLr y then .bad else match lstR st x with
  | some (n, ws) => if ws.length < 1000000 then .ok .non (st.set n (.lst (ws ++ [y]))) else .bad
  | none => .bad
theorem m1_app : M1 g rAppend gApp := by
  intro Wx la st H σ Q w w2 v v2 rs r r2 h
  unfold gApp at h
  by_cases hl : isLr w2 = true
  · rw [if_pos hl] at h; exact h.elim
  · rw [if_neg hl] at h
    cases hw : lstR st w with
    | none => rw [hw] at h; exact h.elim
    | some t =>
      obtain ⟨n, ws⟩ := t
      rw [hw] at h
      simp only at h
      by_cases c : ws.length < 1000000
      · rw [if_pos c] at h
        obtain ⟨a, vs, rfl, ha, hH, z, q⟩ := lstR_of rs r hw
        have hz : vs.length < sizeLine := by rw [q.length]; exact Nat.lt_of_lt_of_le c line_ge
        obtain ⟨x1, rs1⟩ := wr_lst (vs := vs ++ [v2]) rs ha (by rw [List.length_append]; exact hz) (q.append (.one (r2.rw (by simpa using hl))))
        exact ⟨a, vs, v2, rfl, rfl, hH, hz, h la _ .non x1 rs1 .mkN⟩
      · rw [if_neg c] at h; exact h.elim
theorem de_append (hK : g.K = X.K) (ho : DE X g Wx o fo) (ha : DE X g Wx a fa)
    (hbase : attributeBase o "append" X.env (eval o X.env) = eval o X.env := by rfl)
    (hfew : ((backTo pos (starEach [a] X.env)).all (fun x => !x.1) && (backToKw pos (keywordEach [] X.env)).all (fun x => x.1.isSome) && decide (([a] : List Expr).length + ([] : List Keyword).length + (if ([] : List Keyword).isEmpty then 0 else 1) < 30)) = true := by rfl)
    (hline : (apos.endLine == pos.line) = true := by rfl) (hs : starEach [a] X.env = (false, eval a X.env) :: starEach [] X.env := by rfl) (hpl : (backTo pos (starEach [] X.env)).any (·.1) = false := by rfl) :
    DE X g Wx (.Call (.Attribute o "append" apos) [a] [] pos) (eM1 gApp fo fa) := de_m1 hK m1_app PySem.F.slot_list_append PySem.F.type_list_append mt_append ho ha hbase hfew hline hs hpl
/-! pop -/
def gPop : W → Store → Out W := fun x st => match lstR st x with
  | some (n, ws) => (match ws[ws.length - 1]? with
    | some y => .ok y (st.set n (.lst ws.dropLast))
    | none => .bad)
  | none => .bad
theorem m0_pop : M0 g rPop gPop := by
  intro Wx la st H σ Q w v rs r h
  unfold gPop at h
  cases hw : lstR st w with
  | none => rw [hw] at h; exact h.elim
  | some t =>
    obtain ⟨n, ws⟩ := t
    rw [hw] at h
    simp only at h
    cases hy : ws[ws.length - 1]? with
    | none => rw [hy] at h; exact h.elim
    | some y =>
      rw [hy] at h
      obtain ⟨a, vs, rfl, ha, hH, z, q⟩ := lstR_of rs r hw
      obtain ⟨u, hu, ru⟩ := q.get hy
      obtain ⟨x1, rs1⟩ := wr_lst (vs := vs.dropLast) rs ha (by rw [List.length_dropLast]; omega) q.dropLast
      exact ⟨a, vs, u, rfl, rfl, hH, by rw [q.length]; exact hu, h la _ u x1 rs1 (.of (ru.ext rs x1.ext))⟩
theorem de_pop0 (hK : g.K = X.K) (ho : DE X g Wx o fo) (hbase : attributeBase o "pop" X.env (eval o X.env) = eval o X.env := by rfl) (hline : (apos.endLine == pos.line) = true := by rfl) :
    DE X g Wx (.Call (.Attribute o "pop" apos) [] [] pos) (eM0 gPop fo) := de_m0 hK m0_pop PySem.F.slot_list_pop PySem.F.type_list_pop mt_pop ho hbase hline
def gPopAt : W → W → Store → Out W := fun x i st => match lstR st x, i with
  | some (n, ws), .int i => if -1000000 ≤ i ∧ i ≤ 1000000 then (match ixN ws.length i with
    | some k => (match ws[k]? with
      | some y => .ok y (st.set n (.lst (ws.eraseIdx k)))
      | none => .bad)
    | none => .bad) else .bad
  | _, _ => .bad
theorem m1_popAt : M1 g rPopAt gPopAt := by
  intro Wx la st H σ Q w w2 v v2 rs r r2 h
  unfold gPopAt at h
  cases hw : lstR st w with
  | none => rw [hw] at h; exact h.elim
  | some t =>
    obtain ⟨n, ws⟩ := t
    cases w2 <;> (rw [hw] at h; simp only at h) <;> try exact h.elim
    rename_i i
    by_cases c : -1000000 ≤ i ∧ i ≤ 1000000
    · rw [if_pos c] at h
      cases hk : ixN ws.length i with
      | none => rw [hk] at h; exact h.elim
      | some k =>
        rw [hk] at h
        simp only at h
        cases hy : ws[k]? with
        | none => rw [hy] at h; exact h.elim
        | some y =>
          rw [hy] at h
          obtain ⟨a, vs, rfl, ha, hH, z, q⟩ := lstR_of rs r hw
          obtain ⟨u, hu, ru⟩ := q.get hy
          obtain ⟨x1, rs1⟩ := wr_lst (vs := vs.eraseIdx k) rs ha (Nat.le_trans (len_erase _ _) z) (q.eraseIdx k)
          exact ⟨a, vs, i, k, u, rfl, by rw [r2.int], hH, by omega, by omega, by rw [q.length]; exact (ixN_seq hk).1, hu, h la _ u x1 rs1 (.of (ru.ext rs x1.ext))⟩
    · rw [if_neg c] at h; exact h.elim
theorem de_popAt (hK : g.K = X.K) (ho : DE X g Wx o fo) (ha : DE X g Wx a fa)
    (hbase : attributeBase o "pop" X.env (eval o X.env) = eval o X.env := by rfl)
    (hfew : ((backTo pos (starEach [a] X.env)).all (fun x => !x.1) && (backToKw pos (keywordEach [] X.env)).all (fun x => x.1.isSome) && decide (([a] : List Expr).length + ([] : List Keyword).length + (if ([] : List Keyword).isEmpty then 0 else 1) < 30)) = true := by rfl)
    (hline : (apos.endLine == pos.line) = true := by rfl) (hs : starEach [a] X.env = (false, eval a X.env) :: starEach [] X.env := by rfl) (hpl : (backTo pos (starEach [] X.env)).any (·.1) = false := by rfl) :
    DE X g Wx (.Call (.Attribute o "pop" apos) [a] [] pos) (eM1 gPopAt fo fa) := de_m1 hK m1_popAt PySem.F.slot_list_pop PySem.F.type_list_pop mt_popAt ho ha hbase hfew hline hs hpl
/-! insert -/
def gIns : W → W → W → Store → Out W := fun x i y st => if isLr y then .bad else match lstR st x, i with
  | some (n, ws), .int i => if ws.length < 1000000 ∧ 0 ≤ i ∧ i ≤ 1000000 then .ok .non (st.set n (.lst (ws.take i.toNat ++ [y] ++ ws.drop i.toNat))) else .bad
  | _, _ => .bad
theorem de_insert (hK : g.K = X.K) (ho : DE X g Wx o fo) (ha : DE X g Wx a fa) (hb : DE X g Wx b fb)
    (hbase : attributeBase o "insert" X.env (eval o X.env) = eval o X.env := by rfl)
    (hfew : ((backTo pos (starEach [a, b] X.env)).all (fun x => !x.1) && (backToKw pos (keywordEach [] X.env)).all (fun x => x.1.isSome) && decide (([a, b] : List Expr).length + ([] : List Keyword).length + (if ([] : List Keyword).isEmpty then 0 else 1) < 30)) = true := by rfl)
    (hline : (apos.endLine == pos.line) = true := by rfl) (hs : starEach [a, b] X.env = (false, eval a X.env) :: starEach [b] X.env := by rfl) (hs2 : starEach [b] X.env = (false, eval b X.env) :: starEach [] X.env := by rfl) (hpl : (backTo pos (starEach [b] X.env)).any (·.1) = false := by rfl) :
    DE X g Wx (.Call (.Attribute o "insert" apos) [a, b] [] pos) (eM2 gIns fo fa fb) := by
  refine de_m2 hK ?_ PySem.F.slot_list_insert PySem.F.type_list_insert mt_insert ho ha hb hbase hfew hline hs hs2 hpl
  intro Wx la st H σ Q w w2 w3 v v2 v3 rs r r2 r3 h
  unfold gIns at h
  by_cases hl : isLr w3 = true
  · rw [if_pos hl] at h; exact h.elim
  · rw [if_neg hl] at h
    cases hw : lstR st w with
    | none => rw [hw] at h; exact h.elim
    | some t =>
      obtain ⟨n, ws⟩ := t
      cases w2 <;> (rw [hw] at h; simp only at h) <;> try exact h.elim
      rename_i i
      by_cases c : ws.length < 1000000 ∧ 0 ≤ i ∧ i ≤ 1000000
      · rw [if_pos c] at h
        obtain ⟨a, vs, rfl, ha, hH, z, q⟩ := lstR_of rs r hw
        have hz : vs.length < sizeLine := by rw [q.length]; exact Nat.lt_of_lt_of_le c.1 line_ge
        obtain ⟨x1, rs1⟩ := wr_lst (vs := vs.take i.toNat ++ [v3] ++ vs.drop i.toNat) rs ha (by simp only [List.length_append, List.length_take, List.length_drop, List.length_singleton]; omega)
          (((q.take i.toNat).append (.one (r3.rw (by simpa using hl)))).append (q.drop i.toNat))
        exact ⟨a, vs, i, v3, rfl, by rw [r2.int], hH, hz, c.2.1, by omega, h la _ .non x1 rs1 .mkN⟩
      · rw [if_neg c] at h; exact h.elim
/-! extend -/
def gExt : W → W → Store → Out W := fun x y st => match lstR st x, lstM st y with
  | some (n, ws), some us => if ws.length + us.length ≤ 1000000 then .ok .non (st.set n (.lst (ws ++ us))) else .bad
  | _, _ => .bad
theorem m1_ext : M1 g rExtend gExt := by
  intro Wx la st H σ Q w w2 v v2 rs r r2 h
  unfold gExt at h
  cases hw : lstR st w with
  | none => rw [hw] at h; exact h.elim
  | some t =>
    obtain ⟨n, ws⟩ := t
    cases hw2 : lstM st w2 with
    | none => rw [hw, hw2] at h; exact h.elim
    | some us =>
      rw [hw, hw2] at h
      simp only at h
      by_cases c : ws.length + us.length ≤ 1000000
      · rw [if_pos c] at h
        obtain ⟨a, vs, rfl, ha, hH, z, q⟩ := lstR_of rs r hw
        obtain ⟨b, vs2, rfl, hH2, z2, q2⟩ := lstM_of rs r2 hw2
        have hz : vs.length + vs2.length ≤ sizeLine := by rw [q.length, q2.length]; exact Nat.le_trans c line_ge
        obtain ⟨x1, rs1⟩ := wr_lst (vs := vs ++ vs2) rs ha (by rw [List.length_append]; exact hz) (q.append q2)
        exact ⟨a, b, vs, vs2, rfl, rfl, hH, hH2, hz, h la _ .non x1 rs1 .mkN⟩
      · rw [if_neg c] at h; exact h.elim
theorem de_extend (hK : g.K = X.K) (ho : DE X g Wx o fo) (ha : DE X g Wx a fa)
    (hbase : attributeBase o "extend" X.env (eval o X.env) = eval o X.env := by rfl)
    (hfew : ((backTo pos (starEach [a] X.env)).all (fun x => !x.1) && (backToKw pos (keywordEach [] X.env)).all (fun x => x.1.isSome) && decide (([a] : List Expr).length + ([] : List Keyword).length + (if ([] : List Keyword).isEmpty then 0 else 1) < 30)) = true := by rfl)
    (hline : (apos.endLine == pos.line) = true := by rfl) (hs : starEach [a] X.env = (false, eval a X.env) :: starEach [] X.env := by rfl) (hpl : (backTo pos (starEach [] X.env)).any (·.1) = false := by rfl) :
    DE X g Wx (.Call (.Attribute o "extend" apos) [a] [] pos) (eM1 gExt fo fa) := de_m1 hK m1_ext PySem.F.slot_list_extend PySem.F.type_list_extend mt_extend ho ha hbase hfew hline hs hpl
/-! count -/
def rCntD (K : PySem.W.Frag) : V → List V → Hp → VK → Prop := fun x xs H Q => ∃ (a : Addr) (y : V) (d : PyData) (ds : List PyData), x = V.ref a ∧ xs = [y] ∧ Dp K H (V.ref a) (.list ds) ∧ Dp K H y d ∧ SeqAt.shaped (.list ds) = true ∧ SeqAt.shaped d = true ∧ Q (.int ((ds.countP fun z => PyData.eqv z d : Nat) : Int)) H
theorem mt_cntD (hu : X.A.units + 65 < cLine) : MtR X "list.count" (rCntD X.K) := by
  rintro pins s σ H x xs v us Q I rx rxs ⟨a, y, d, ds, rfl, rfl, hl, hy, sl, sd, q⟩
  cases rx
  obtain ⟨uy, rfl, ry⟩ := rxs.one
  obtain ⟨bs, r1⟩ := Dp.reads I d y uy hy ry
  cases hl with
  | lst hs ha =>
    obtain ⟨its, rv, ⟨⟨cls, dd, data, sls⟩, n, ho, hc, hdn, hdt⟩, hlen⟩ := I.list hs
    dsimp only at hc hdt
    subst hc hdt
    obtain ⟨as, h4⟩ := Dp.readsAll I ds _ its ha rv
    have hmap : its.map (SeqAt.readOf s.heap) = ds := SeqAt.readsAll_map ds its as (SeqAt.canLay_of_shaped sl) h4
    refine call_meets PySem.F.slot_list_count ⟨_, ho, rfl⟩ PySem.F.entry_list_count (PySem.F.args_list_count_2 _ _)
      (SeqAt.list_countAt a its.toArray n dd sls uy fun u => PyData.eqv (SeqAt.readOf s.heap u) d) ⟨ho, ?_, ?_⟩
    · exact SeqAt.items_eqAt (vs := its.toArray) h4 r1 (SeqAt.canLay_of_shaped sl) (SeqAt.canLay_of_shaped sd) (room_in_shaped sd hu)
    · have ec : its.toArray.toList.countP (fun u => PyData.eqv (SeqAt.readOf s.heap u) d) = ds.countP fun z => PyData.eqv z d := by
        rw [← hmap, List.countP_map]; rfl
      rw [ec]
      exact ⟨.int _, H, I.tok _, ⟨_, rfl⟩, q⟩
def gCnt : W → W → Store → Out W := gDat2 fun e d => match e with
  | .list ds => some (.int ((ds.countP fun z => z.eqv d : Nat) : Int))
  | _ => none
theorem de_count (hK : g.K = X.K) (hu : X.A.units + 65 < cLine) (ho : DE X g Wx o fo) (ha : DE X g Wx a fa)
    (hbase : attributeBase o "count" X.env (eval o X.env) = eval o X.env := by rfl)
    (hfew : ((backTo pos (starEach [a] X.env)).all (fun x => !x.1) && (backToKw pos (keywordEach [] X.env)).all (fun x => x.1.isSome) && decide (([a] : List Expr).length + ([] : List Keyword).length + (if ([] : List Keyword).isEmpty then 0 else 1) < 30)) = true := by rfl)
    (hline : (apos.endLine == pos.line) = true := by rfl) (hs : starEach [a] X.env = (false, eval a X.env) :: starEach [] X.env := by rfl) (hpl : (backTo pos (starEach [] X.env)).any (·.1) = false := by rfl) :
    DE X g Wx (.Call (.Attribute o "count" apos) [a] [] pos) (eM1 gCnt fo fa) := by
  refine de_m1 hK ?_ PySem.F.slot_list_count PySem.F.type_list_count (mt_cntD hu) ho ha hbase hfew hline hs hpl
  intro Wx la st H σ Q w w2 v v2 rs r r2 h
  obtain ⟨d, e, w, h1, h2, h3, h4, h5, h6⟩ := dat2_at hK rs r r2 h
  cases d <;> cases h5
  cases h1 with
  | lst hs ha => exact ⟨_, _, _, _, rfl, rfl, .lst hs ha, h2, h3, h4, h6.here rs .mkI⟩
/-! index -/
def gIdx : W → W → Store → Out W := gDat2 fun e d => match e with
  | .list ds => (match ds.findIdx? fun z => z.eqv d with
    | some j => some (.int (j : Nat))
    | none => none)
  | _ => none
theorem de_index (hK : g.K = X.K) (hu : X.A.units + 65 < cLine) (ho : DE X g Wx o fo) (ha : DE X g Wx a fa)
    (hbase : attributeBase o "index" X.env (eval o X.env) = eval o X.env := by rfl)
    (hfew : ((backTo pos (starEach [a] X.env)).all (fun x => !x.1) && (backToKw pos (keywordEach [] X.env)).all (fun x => x.1.isSome) && decide (([a] : List Expr).length + ([] : List Keyword).length + (if ([] : List Keyword).isEmpty then 0 else 1) < 30)) = true := by rfl)
    (hline : (apos.endLine == pos.line) = true := by rfl) (hs : starEach [a] X.env = (false, eval a X.env) :: starEach [] X.env := by rfl) (hpl : (backTo pos (starEach [] X.env)).any (·.1) = false := by rfl) :
    DE X g Wx (.Call (.Attribute o "index" apos) [a] [] pos) (eM1 gIdx fo fa) := by
  refine de_m1 hK ?_ PySem.F.slot_list_index PySem.F.type_list_index (mt_indexD hu) ho ha hbase hfew hline hs hpl
  intro Wx la st H σ Q w w2 v v2 rs r r2 h
  obtain ⟨d, e, w, h1, h2, h3, h4, h5, h6⟩ := dat2_at hK rs r r2 h
  cases d <;> simp only [reduceCtorEq] at h5
  rename_i ds
  cases hf : ds.findIdx? (fun z => z.eqv e) with
  | none => rw [hf] at h5; cases h5
  | some j =>
    rw [hf] at h5
    cases h5
    obtain ⟨hj, h7, h8⟩ := List.findIdx?_eq_some_iff_getElem.mp hf
    cases h1 with
    | lst hs ha =>
      refine ⟨_, _, _, ds, j, ds[j], rfl, rfl, .lst hs ha, h2, h3, h4, List.getElem?_eq_getElem hj, h7, fun m z hm hz => ?_, h6.here rs .mkI⟩
      have hml : m < ds.length := by omega
      rw [List.getElem?_eq_getElem hml, Option.some.injEq] at hz
      rw [← hz]
      simpa using h8 m hm
end
end Hb

end

section
set_option Elab.async false
set_option linter.all false
set_option maxRecDepth 100000
set_option maxHeartbeats 4000000
/-! Hb9: exceptions of own classes: made and raised. -/
namespace Hb
open PySem PySem.Spec PyProof.Rows L2

section
variable {X : Cx} {g : Glo} {Wx : WX} {e : Expr} {es : List Expr} {ta : TA} {p pos : Pos}
/-- C(e, ..), C's own __init__ walked, where nothing is handled -/
theorem pmk_own_init {x : Str} {C fI : Addr} {k : Nat} {fd : FuncData} {ps : List Str} {sp : Sp} (T : OexC X.K C)
    (iC : PySem.W.findIn X.K (.ref C) "__init__" = some (some (.ref fI))) (tI : PySem.W.typeIn X.K (.ref fI) = some (.type "function")) (F1 : FnOk X.prog X.w X.K X.mg X.base (L2N.CX X.prog X.w) k fI fd ps sp)
    (hr : Room (k + 1) X.A) (hb : Binds X.K fd ps []) (hx : ∀ pins σ H s e s', Inv X pins σ H s → L2N.CX X.prog X.w X.stack H s (fun _ _ _ => False) e s' → X.xe e s') (hg : Gl X x) (hm : X.mg x = some (.ref C)) (ha : PA X (e :: es) ta)
    (hdb : (x == ("__debug__" : Str)) = false := by decide) (he : starEach (e :: es) X.env = (false, eval e X.env) :: starEach es X.env := by rfl) (hpl : (backTo pos (starEach es X.env)).any (·.1) = false := by rfl) :
    L2N.PMk X (.Call (.Name x p) (e :: es) [] pos) (tMkO C sp [] ta) := fun pins s σ H Q I h => by
  obtain ⟨nm, q, N, bs, bm, sn, sub, ab, col, dd, k0, k1, k2, k3, k5, hC, hbm⟩ := T.cls
  refine wpAny_Call_Name_kw (ld_glob I hg hm ?_ hdb)
  refine PySem.W.callWith_K (h₀ := X.base) I.ok.mod.kin T.kC (thn (ha.run pos pins s σ H _ I h) fun us s1 h1 => ?_) he hpl
  obtain ⟨vs, H1, I1, r1, hz, q1⟩ := h1
  refine ⟨I1.kIn, ?_⟩
  obtain ⟨hp, gs, dr, tk, os⟩ := s1
  show wpAny _ _ (call (.ref C) us) _ _ _
  have up : hp.objs.size ≤ hp.objs.size + 1 := by omega
  have hq := q1 (hp.objs.size + 1) (I1.hok.fresh up)
  rw [List.append_nil] at hq
  let hp2 : Heap := (hp.push (PySem.W.kdv_tup us)).push (PySem.HandSPX.excO C hp.objs.size)
  have kk : ∀ b o, hp.get? b = some o → hp2.get? b = some o := fun b o z =>
    Heap.get?_push_of_some _ (Heap.get?_push_of_some _ z)
  have at_ : hp2.get? (hp.objs.size + 1) = some (PySem.HandSPX.excO C hp.objs.size) := by heap_get
  have I2 := I1.laid (t' := tk) (a := hp.objs.size + 1) (o := exo (hp.objs.size + 1) C none) (h' := hp2) kk up (exo_ok at_)
  have r2 : Vals (V.ref (hp.objs.size + 1) :: vs) (Value.ref (hp.objs.size + 1) :: us) := .cons rfl r1
  have len1 : ((Value.ref (hp.objs.size + 1) :: us) ++ []).length = ps.length := by
    rw [List.append_nil, ← F1.len _ _ _ _ hq]
    exact r2.length.symm
  have small : us.length ≤ sizeLine := by
    have z := Paired.length r1
    rw [sizeLine_eq]; omega
  have b2 := hb ⟨hp2, gs, dr, tk, os⟩ (Value.ref (hp.objs.size + 1) :: us) I2.kIn len1
  rw [List.append_nil] at b2
  have goF := F1.run _ X.stack _ _ ⟨Value.ref (hp.objs.size + 1) :: us, []⟩ (Value.ref (hp.objs.size + 1) :: us) _ _ (fun _ _ _ => False) (hr.make C us []) (I2.env0.make C us []) b2 r2 hq
  refine wpAny_call (PySem.HandSPX.call_own F.excBase_ValueError (fun Y => PySem.HandSPX.refsVE_contains Y bm hbm) (I1.kIn _ _ hC)
    (PySem.W.looks_findIn I1.kIn iC) (fun self => PySem.W.bind_fn I1.kIn self tI) small (codeAny_mono goF fun r s' o => ?_))
  cases r with
  | error er => exact hx pins σ _ _ er s' I2 o
  | ok fl =>
    cases fl <;> try exact o.elim
    obtain ⟨v, H2, os2, bare2, un2, hok2, rv, ev, d, fs, ea, ed, hd1, q2⟩ := o
    subst ev
    obtain ⟨h2, g2, d2, t2, os'⟩ := s'
    obtain ⟨t0, G, J, kG, ge, hoe, na⟩ := mk_end0 (d2 := d2) (t2 := t2) I1 up kk un2 hok2 os2 bare2 ea ed hd1
    exact ⟨rv, hp.objs.size + 1, _, _, ⟨G, g2, d2, t2, os'⟩, _, .ref C, some d, rfl, J, kG, ge, hoe, ⟨rfl, rfl, fun us hu => by cases hu; rfl⟩, rfl, rfl, na, rfl, bare2, raises_own T.exC T.tyC, q2⟩
/-! ### what such an __init__ promises -/
/-- self.f1 = y -/
def spX1 (C : Addr) (f1 : Str) : Sp := fun vs H Q _ => ∃ a y, vs = [.ref a, y] ∧ H a = some (exo a C none) ∧ ∀ dx, H dx = none → dx ≠ a → Q .non (upd (upd H dx (exd dx [(f1, y)])) a (exo a C (some dx)))
/-- self.f1 = y1; self.f2 = y2 -/
def spX2 (C : Addr) (f1 f2 : Str) : Sp := fun vs H Q _ => ∃ a y1 y2, vs = [.ref a, y1, y2] ∧ H a = some (exo a C none) ∧ ∀ dx, H dx = none → dx ≠ a → Q .non (upd (upd (upd H dx (exd dx [(f1, y1)])) a (exo a C (some dx))) dx (exd dx [(f2, y2), (f1, y1)]))
/-- self.f1 = tuple(y) -/
def spXT (K : PySem.W.Frag) (C : Addr) (f1 : Str) : Sp := fun vs H Q _ => ∃ a p ys, vs = [.ref a, .ref p] ∧ H a = some (exo a C none) ∧
  ((SqL K H p ys ∧ ∀ l, H l = none → ∀ dx, upd H l (.tup ys) dx = none → dx ≠ a → Q .non (upd (upd (upd H l (.tup ys)) dx (exd dx [(f1, .ref l)])) a (exo a C (some dx)))) ∨
    (SqT K H p ys ∧ ∀ dx, H dx = none → dx ≠ a → Q .non (upd (upd H dx (exd dx [(f1, .ref p)])) a (exo a C (some dx)))))
section
variable {P : Program} {w : World} {K : PySem.W.Frag} {mg : Str → Option Value} {base : Heap} {qual : Str} {params : Arguments} {scope : Scope} {f C : Addr} {fd : FuncData} {f1 f2 v1 v2 : Str} {p1 p2 p3 p4 p5 p6 p7 p8 p9 : Pos} {ps : List Str}
theorem init_1 (F : FunD K "__init__" qual params [.Assign [.Attribute (.Name "self" p1) f1 p2] (.Name v1 p3) p4] scope [] [] f fd) (S : FnScope ["self", v1] ["self", v1] scope) (T : OexC K C) (h1 : PySem.W.findIn K (.ref C) f1 = some none)
    (hs : Vis scope "self") (hv : Vis scope v1) (hd : (v1 == ("__debug__" : Str)) = false := by decide) (hcd : (v1 == ("__classdict__" : Str)) = false := by decide) : FnOk P w K mg base (L2N.CX P w) 1 f fd ["self", v1] (spX1 C f1) := by
  refine F.ok S ?_ fun cdv A outer s H vs Q E hr h => ⟨_, pss_one (ps_ost (pe_var (i := 0) rfl hs) (pe_var (i := 1) rfl hv hd hcd)), ?_⟩
  · rintro vs H Q E ⟨a, y, rfl, _⟩; rfl
  · obtain ⟨a, y, rfl, hH, q⟩ := h
    exact ⟨y, rfl, .ref a, rfl, a, C, rfl, T, h1, .inl ⟨hH, fun dx n m => q dx n m⟩⟩
theorem init_2 (F : FunD K "__init__" qual params [.Assign [.Attribute (.Name "self" p1) f1 p2] (.Name v1 p3) p4, .Assign [.Attribute (.Name "self" p5) f2 p6] (.Name v2 p7) p8] scope [] [] f fd) (S : FnScope ["self", v1, v2] ["self", v1, v2] scope) (T : OexC K C)
    (h1 : PySem.W.findIn K (.ref C) f1 = some none) (h2 : PySem.W.findIn K (.ref C) f2 = some none) (hs : Vis scope "self") (hv : Vis scope v1) (hv2 : Vis scope v2) (hd : (v1 == ("__debug__" : Str)) = false := by decide) (hcd : (v1 == ("__classdict__" : Str)) = false := by decide)
    (hd2 : (v2 == ("__debug__" : Str)) = false := by decide) (hcd2 : (v2 == ("__classdict__" : Str)) = false := by decide) : FnOk P w K mg base (L2N.CX P w) 1 f fd ["self", v1, v2] (spX2 C f1 f2) := by
  refine F.ok S ?_ fun cdv A outer s H vs Q E hr h => ⟨_, pss_cons (ps_ost (pe_var (i := 0) rfl hs) (pe_var (i := 1) rfl hv hd hcd)) (pss_one (ps_ost (pe_var (i := 0) rfl hs) (pe_var (i := 2) rfl hv2 hd2 hcd2))), ?_⟩
  · rintro vs H Q E ⟨a, y, z, rfl, _⟩; rfl
  · obtain ⟨a, y, z, rfl, hH, q⟩ := h
    refine ⟨y, rfl, .ref a, rfl, a, C, rfl, T, h1, .inl ⟨hH, fun dx n m => ?_⟩⟩
    refine ⟨z, rfl, .ref a, rfl, a, C, rfl, T, h2, .inr ⟨dx, [(f1, y)], upd_same, ?_, by simp, q dx n m⟩⟩
    rw [upd_ne m, upd_same]
theorem init_T (F : FunD K "__init__" qual params [.Assign [.Attribute (.Name "self" p1) f1 p2] (.Call (.Name "tuple" p5) [.Name v1 p3] [] p6) p4] scope [] [] f fd) (S : FnScope ["self", v1] ["self", v1] scope) (T : OexC K C) (h1 : PySem.W.findIn K (.ref C) f1 = some none) (hm : mg "tuple" = none)
    (hs : Vis scope "self") (hv : Vis scope v1) (hgl : (envOfC qual scope 0 f (.none)).kindOf "tuple" = some .globalImplicit) (hd : (v1 == ("__debug__" : Str)) = false := by decide) (hcd : (v1 == ("__classdict__" : Str)) = false := by decide) : FnOk P w K mg base (L2N.CX P w) 1 f fd ["self", v1] (spXT K C f1) := by
  refine F.ok S ?_ fun cdv A outer s H vs Q E hr h => ⟨_, pss_one (ps_ost (pe_var (i := 0) rfl hs) (pe_callTy call_tuple_of hgl hm (by rfl) (pa_cons (pe_var (i := 1) rfl hv hd hcd) pa_nil))), ?_⟩
  · rintro vs H Q E ⟨a, q, ys, rfl, _⟩; rfl
  · obtain ⟨a, q, ys, rfl, hH, h⟩ := h
    rcases h with ⟨hs, h⟩ | ⟨hs, h⟩
    · refine ⟨.ref q, rfl, q, ys, rfl, .inl ⟨hs, fun l hl => ?_⟩⟩
      refine ⟨.ref a, rfl, a, C, rfl, T, h1, .inl ⟨?_, fun dx n m => h l hl dx n m⟩⟩
      rw [upd_ne (ne_of_none hH hl)]; exact hH
    · exact ⟨.ref q, rfl, q, ys, rfl, .inr ⟨hs, .ref a, rfl, a, C, rfl, T, h1, .inl ⟨hH, fun dx n m => h dx n m⟩⟩⟩
end
end
end Hb

end

section
set_option Elab.async false
set_option linter.all false
set_option maxRecDepth 100000
set_option maxHeartbeats 4000000
/-! Hb10: raise; isinstance, fields of a handled exception. -/
namespace PySem.W
open PySem PySem.Spec PySem.Calls PyProof.Rows
section
variable {prog : Program} {w : World} {A : Around} {E : Value → Shared → Prop} {s : Shared} {K : Frag} {x D : Addr} {ox : Obj} {od : Option Obj}
theorem hb_found {C : Addr} {nm : Str} {a g : Value} (h1 : (clsIn K C).isSome = true) (h2 : findIn K (.ref C) nm = some (some a)) (h3 : specialIn K a "__get__" = some (some g)) (h4 : takesIn K a = some true) : findObj K C od nm = some (.bind g a) := by
  obtain ⟨cd, h1⟩ := Option.isSome_iff_exists.mp h1
  simp [findObj, h1, h2, h3, h4]
/-- what the class D says, for isinstance to ask its instances, whatever their dict -/
theorem hb_class {Q : Option Value → Shared → Prop} (T : L2.ExcC K D) (X : K.In s.heap) (I : InstAt s.heap x ox D od) (h : Q (some (.ref D)) { s with toks := s.toks + 1 }) :
    wpAny (model prog w) A (getAttr? (.ref x) "__class__") Q E s := by
  have hf : findObj K D od "__class__" = some (.bind (.builtin "getset_descriptor.__get__") (.builtin "object.__class__")) :=
    hb_found (by obtain ⟨cd, hc, _⟩ := any_some T.hd; rw [hc]; rfl) T.ha T.hn T.ht
  obtain ⟨hp, gs, dr, t, os⟩ := s
  have K0 := I.type (M := model prog w)
  have K1 := looks_findIn (M := model prog w) X T.hg
  have K2 := looks_findIn (M := model prog w) X T.hk
  have K3 := looks_find (M := model prog w) X I hf
  have sb : Looks (model prog w) hp (isInstance (.ref x) (.type "BaseException")) true := K0.andThen (looks_subIn X T.hs)
  have n0 : (false && onTheHeap (Value.builtin "BaseException.__getattribute__")) = false := rfl
  have n2 : (Value.builtin "BaseException.__getattribute__" == Value.builtin "object.__getattribute__") = false := by decide +kernel
  have n1 : (onTheHeap (Value.ref D) && Value.builtin "BaseException.__getattribute__" == Value.builtin "object.__getattribute__") = false := by rw [n2]; rfl
  unfold getAttr? getAttrBy? getAttrBy
  refine wpAny_bind (wpAny_mkText (wpAny_bind (wpAny_attempt (wpAny_holding (wpAny_bind (K0.at (wpAny_bind (K1.at ?_))))))))
  show wpAny _ _ (if (onTheHeap (Value.ref D) && Value.builtin "BaseException.__getattribute__" == Value.builtin "object.__getattribute__") = true then _ else _) _ _ _
  rw [n1, if_neg Bool.false_ne_true]
  unfold getAttrByItsOwn hookBefore
  refine wpAny_bind ?_
  rw [if_pos (show onTheHeap (Value.ref D) = true from rfl)]
  refine K2.at (wpAny_bind (wpAny_attempt (wpAny_holding ?_)))
  unfold callGetattribute
  rw [n0, if_neg Bool.false_ne_true]
  unfold boundAndCalled
  rw [PySem.F.excAttr_ValueError.ga.bind (.ref x)]
  refine wpAny_bind (wpAny_pure ?_)
  show wpAny _ _ (call (.builtin "BaseException.__getattribute__") [.ref x, .str "__class__" t]) _ _ _
  refine wpAny_call (codeAny_call_builtin PySem.F.excAttr_ValueError.ga.plain PySem.F.entry_bexc_ga
    (@check_slot (model prog w) _ _ ⟨hp, gs, dr, t + 1, os⟩ "BaseException.__getattribute__" "BaseException" "__getattribute__" (.ref x) [.str "__class__" t] [] _ (by decide +kernel) (by decide +kernel) sb (PySem.F.args_bexc_ga (.ref x) (.str "__class__" t)) ?_))
  unfold Builtin.«object.__getattribute__»
  refine wpAny_bind (wpAny_of_eq (a := ((Value.ref x : Value), [Value.str "__class__" t])) (by first | rfl | (simp only [slotArgs]; rfl)) (wpAny_bind (wpAny_pure (wpAny_bind (K0.at (wpAny_bind (K3.at ?_)))))))
  show wpAny _ _ (holding [Value.builtin "object.__class__"] (call (.builtin "getset_descriptor.__get__") [.builtin "object.__class__", .ref x, .ref D]) >>= ret) _ _ _
  refine wpAny_bind (wpAny_holding (wpAny_call (class_get (s := ⟨hp, gs, dr, t + 1, os⟩) (ox := ox) (od := od) X I T.hm (wpAny_pure ?_))))
  show wpAny _ _ (handedOut (.ref D)) _ _ _
  rw [handedOut_of (v := .ref D) rfl]
  first
    | exact wpAny_pure h
    | exact wpAny_pure (wpAny_pure h)
    | exact wpAny_pure (wpAny_bind (wpAny_pure (wpAny_pure h)))
theorem hb_kit (T : L2.ExcC K D) : KitX K (.ref x) (.ref D) (fun h => InstAt h x ox D od) where
  ty := fun _ _ _ I => I.type
  it := fun M h X _ => by
    obtain ⟨cd, hc, _⟩ := any_some T.hd
    unfold clsIn at hc
    split at hc
    · rename_i ho
      intro A' Q' E' s' k q
      unfold isType loadHead
      exact wpAny_bind (wpAny_loadPart (k _ _ (X _ _ ho)) (wpAny_pure q))
    · cases hc
  ne := fun h tp dd its n sl X htp => by
    obtain ⟨cd, hc, _⟩ := any_some T.hd
    rw [Bool.eq_false_iff]
    intro q
    obtain rfl : D = tp := Value.ref.inj (beq_iff_eq.mp q)
    unfold clsIn at hc
    split at hc
    · rename_i ho
      have z := (X _ _ ho).symm.trans htp
      cases z
    · cases hc
  ca := fun X I k => hb_class T X I k
end
end PySem.W
namespace Hb
open PySem PySem.Spec PyProof.Rows L2

/-! ### an own exception class -/
structure ExcCls (P : Program) (w : World) (K : PySem.W.Frag) (mg : Str → Option Value) (base : Heap) (C : Addr) (x : Str) (sp : Sp) : Prop where
  gl : mg x = some (.ref C)
  T : OexC K C
  ini : ∃ fI fd ps, PySem.W.findIn K (.ref C) "__init__" = some (some (.ref fI)) ∧ PySem.W.typeIn K (.ref fI) = some (.type "function") ∧ FnOk P w K mg base (L2N.CX P w) 1 fI fd ps sp ∧ Binds K fd ps []
section
variable {X : Cx} {g : Glo} {Wx : WX} {a b c e o : Expr} {fa fb fc fe fo : FE} {pos p p' apos : Pos} {x : Str} {cc : Nat} {f1 f2 : String}
theorem upd_x {H : Hp} {a dx : Addr} {o1 o2 o3 o4 : HO} (ha : H a = none) (hd : dx ≠ a) : upd (del (upd (upd (upd H a o1) dx o2) a o3) a) dx o4 = upd H dx o4 := by
  funext q
  by_cases h : q = dx
  · subst h; rw [upd_same, upd_same]
  · rw [upd_ne h, upd_ne h]
    by_cases h2 : q = a
    · subst h2; rw [del_same, ha]
    · rw [del_ne h2, upd_ne h2, upd_ne h, upd_ne h2]
theorem upd_x2 {H : Hp} {a dx : Addr} {o1 o2 o3 o4 o5 : HO} (ha : H a = none) (hd : dx ≠ a) : upd (del (upd (upd (upd (upd H a o1) dx o2) a o3) dx o5) a) dx o4 = upd H dx o4 := by
  funext q
  by_cases h : q = dx
  · subst h; rw [upd_same, upd_same]
  · rw [upd_ne h, upd_ne h]
    by_cases h2 : q = a
    · subst h2; rw [del_same, ha]
    · rw [del_ne h2, upd_ne h, upd_ne h2, upd_ne h, upd_ne h2]
theorem noneTaken (tk : L2N.Takes X Wx) : ∀ pins σ H s e s', Inv X pins σ H s → L2N.CX X.prog X.w X.stack H s (fun _ _ _ => False) e s' → X.xe e s' :=
  L2N.passes_call (E := fun _ _ _ => False) tk fun _ _ _ _ h => h.elim
def sRaise1 (c : Nat) (f1 : String) (fa : FE) : FS := fun env st => (fa env st).bindS env fun w st1 => if isLr w then .bad else .exc c [(f1, w)] env st1
theorem ds_raise1 (hc : X.calm = true) (tk : L2N.Takes X Wx) (hr : Room 2 X.A) (Ec : ExcCls X.prog X.w X.K X.mg X.base (g.ca cc) x (spX1 (g.ca cc) (Str.ofString f1))) (hg : Gl X x) (ha : DE X g Wx a fa)
    (hdb : (x == ("__debug__" : Str)) = false := by decide) (hs : starEach [a] X.env = (false, eval a X.env) :: starEach [] X.env := by rfl) (hpl : (backTo p' (starEach [] X.env)).any (·.1) = false := by rfl) :
    DS X g Wx (.Raise (some (.Call (.Name x p) [a] [] p')) none pos) (sRaise1 cc f1 fa) := by
  obtain ⟨fI, fd, ps, h1, h2, F1, hb⟩ := Ec.ini
  refine PS.imp (L2N.ps_raise hc tk (pmk_own_init Ec.T h1 h2 F1 hr hb (noneTaken tk) hg Ec.gl (da_1 ha hs) hdb hs hpl)) fun D σ H ⟨B, env, la, st, R, h⟩ => ?_
  refine SS.step R h fun w st1 la1 H1 vs x1 R1 r1 p1 => ?_
  obtain ⟨v, rfl, r1⟩ := r1
  by_cases hl : isLr w = true
  · rw [if_pos hl] at p1; exact p1.elim
  · rw [if_neg hl] at p1
    have r2 := r1.rw (by simpa using hl)
    refine ⟨by simp, fun q hq => ⟨q, v, rfl, upd_same, fun dx n m => ⟨rfl, dx, [(Str.ofString f1, v)], upd_same, ?_, ?_, ?_⟩⟩⟩
    · rw [upd_ne m, upd_same]
    · rw [upd_ne m] at n; exact n
    · have hn : H1 dx = none := by rw [upd_ne m] at n; exact n
      rw [upd_x hq m]
      exact p1 σ la1 _ _ (ExtE.fresh hn).ext (R1.extE (.fresh hn) (R1.rs.fresh hn)) (.inr ⟨by simp, dx, _, rfl, upd_same, v, [], rfl, r2.ext R1.rs (ExtE.fresh hn).ext, rfl⟩)
def sRaise2 (c : Nat) (f1 f2 : String) (fa fb : FE) : FS := fun env st => (aTwo fa fb env st).bindS env fun w st1 => if isLr w.1 || isLr w.2 then .bad else .exc c [(f2, w.2), (f1, w.1)] env st1
theorem ds_raise2 (hc : X.calm = true) (tk : L2N.Takes X Wx) (hr : Room 2 X.A) (Ec : ExcCls X.prog X.w X.K X.mg X.base (g.ca cc) x (spX2 (g.ca cc) (Str.ofString f1) (Str.ofString f2))) (hg : Gl X x) (ha : DE X g Wx a fa) (hb' : DE X g Wx b fb)
    (hdb : (x == ("__debug__" : Str)) = false := by decide) (hs : starEach [a, b] X.env = (false, eval a X.env) :: starEach [b] X.env := by rfl) (hs2 : starEach [b] X.env = (false, eval b X.env) :: starEach [] X.env := by rfl) (hpl : (backTo p' (starEach [b] X.env)).any (·.1) = false := by rfl) :
    DS X g Wx (.Raise (some (.Call (.Name x p) [a, b] [] p')) none pos) (sRaise2 cc f1 f2 fa fb) := by
  obtain ⟨fI, fd, ps, h1, h2, F1, hb⟩ := Ec.ini
  refine PS.imp (L2N.ps_raise hc tk (pmk_own_init Ec.T h1 h2 F1 hr hb (noneTaken tk) hg Ec.gl (da_2 ha hb' hs hs2) hdb hs hpl)) fun D σ H ⟨B, env, la, st, R, h⟩ => ?_
  refine SS.step R h fun w st1 la1 H1 vs x1 R1 r1 p1 => ?_
  obtain ⟨v, u, rfl, r1, r2⟩ := r1
  by_cases hl : (isLr w.1 || isLr w.2) = true
  · rw [if_pos hl] at p1; exact p1.elim
  · rw [if_neg hl] at p1
    simp only [Bool.or_eq_true, not_or] at hl
    have r3 := r1.rw (by simpa using hl.1)
    have r4 := r2.rw (by simpa using hl.2)
    refine ⟨by simp, fun q hq => ⟨q, v, u, rfl, upd_same, fun dx n m => ⟨rfl, dx, [(Str.ofString f2, u), (Str.ofString f1, v)], ?_, upd_same, ?_, ?_⟩⟩⟩
    · rw [upd_ne (Ne.symm m), upd_same]
    · rw [upd_ne m] at n; exact n
    · have hn : H1 dx = none := by rw [upd_ne m] at n; exact n
      rw [upd_x2 hq m]
      exact p1 σ la1 _ _ (ExtE.fresh hn).ext (R1.extE (.fresh hn) (R1.rs.fresh hn)) (.inr ⟨by simp, dx, _, rfl, upd_same, u, _, rfl, r4.ext R1.rs (ExtE.fresh hn).ext, v, [], rfl, r3.ext R1.rs (ExtE.fresh hn).ext, rfl⟩)
/-- a fault: told as a tuple -/
def sRaiseT (c : Nat) (f1 : String) (fa : FE) : FS := fun env st => (fa env st).bindS env fun w st1 => match seqW st1 w with
  | some ws => .exc c [(f1, .tup ws)] env st1
  | none => .bad
theorem ds_raiseT (hK : g.K = X.K) (hc : X.calm = true) (tk : L2N.Takes X Wx) (hr : Room 2 X.A) (Ec : ExcCls X.prog X.w X.K X.mg X.base (g.ca cc) x (spXT X.K (g.ca cc) (Str.ofString f1))) (hg : Gl X x) (ha : DE X g Wx a fa)
    (hdb : (x == ("__debug__" : Str)) = false := by decide) (hs : starEach [a] X.env = (false, eval a X.env) :: starEach [] X.env := by rfl) (hpl : (backTo p' (starEach [] X.env)).any (·.1) = false := by rfl) :
    DS X g Wx (.Raise (some (.Call (.Name x p) [a] [] p')) none pos) (sRaiseT cc f1 fa) := by
  obtain ⟨fI, fd, ps, h1, h2, F1, hb⟩ := Ec.ini
  refine PS.imp (L2N.ps_raise hc tk (pmk_own_init Ec.T h1 h2 F1 hr hb (noneTaken tk) hg Ec.gl (da_1 ha hs) hdb hs hpl)) fun D σ H ⟨B, env, la, st, R, h⟩ => ?_
  refine SS.step R h fun w st1 la1 H1 vs x1 R1 r1 p1 => ?_
  obtain ⟨v, rfl, r1⟩ := r1
  cases hw : seqW st1 w with
  | none => rw [hw] at p1; exact p1.elim
  | some ws =>
    rw [hw] at p1
    obtain ⟨q0, us, rfl, hs, z, r2⟩ := seq_of R1.rs r1 hw
    rw [hK] at hs
    refine ⟨by simp, fun q hq => ⟨q, q0, us, rfl, upd_same, ?_⟩⟩
    have keepL : ∀ {xs}, SqL X.K H1 q0 xs → SqL X.K (upd H1 q (exo q (g.ca cc) none)) q0 xs := fun {xs} h => by
      rcases h with (h | ⟨o, h⟩) | h
      · exact .inl (.inl (by rw [upd_ne (ne_of_none h hq)]; exact h))
      · exact .inl (.inr ⟨o, by rw [upd_ne (ne_of_none h hq)]; exact h⟩)
      · exact .inr h
    have keepT : ∀ {xs}, SqT X.K H1 q0 xs → SqT X.K (upd H1 q (exo q (g.ca cc) none)) q0 xs := fun {xs} h => by
      rcases h with (h | ⟨o, h⟩) | h
      · exact .inl (.inl (by rw [upd_ne (ne_of_none h hq)]; exact h))
      · exact .inl (.inr ⟨o, by rw [upd_ne (ne_of_none h hq)]; exact h⟩)
      · exact .inr h
    rcases hs with hs | hs
    · refine .inl ⟨keepL hs, fun l hl dx n m => ⟨rfl, dx, [(Str.ofString f1, .ref l)], upd_same, ?_, ?_, ?_⟩⟩
      · rw [upd_ne m, upd_same]
      · have lq : l ≠ q := by rintro rfl; rw [upd_same] at hl; cases hl
        have dl : dx ≠ l := by rintro rfl; rw [upd_same] at n; cases n
        rw [upd_ne dl, upd_ne m] at n; exact n
      · have lq : l ≠ q := by rintro rfl; rw [upd_same] at hl; cases hl
        have dl : dx ≠ l := by rintro rfl; rw [upd_same] at n; cases n
        have hl1 : H1 l = none := by rw [upd_ne lq] at hl; exact hl
        have hn : H1 dx = none := by rw [upd_ne dl, upd_ne m] at n; exact n
        have eq1 : upd (del (upd (upd (upd (upd H1 q (exo q (g.ca cc) none)) l (.tup us)) dx (exd dx [(Str.ofString f1, .ref l)])) q (exo q (g.ca cc) (some dx))) q) dx (.xd [(Str.ofString f1, .ref l)]) = upd (upd H1 l (.tup us)) dx (.xd [(Str.ofString f1, .ref l)]) := by
          funext y
          by_cases h : y = dx
          · subst h; rw [upd_same, upd_same]
          · rw [upd_ne h, upd_ne h]
            by_cases h2 : y = q
            · subst h2; rw [del_same, upd_ne (Ne.symm lq), hq]
            · rw [del_ne h2, upd_ne h2, upd_ne h]
              by_cases h3 : y = l
              · subst h3; rw [upd_same, upd_same]
              · rw [upd_ne h3, upd_ne h3, upd_ne h2]
        rw [eq1]
        have R2 := R1.extE (.fresh (o := .tup us) hl1) (R1.rs.fresh hl1)
        have hn2 : upd H1 l (.tup us) dx = none := by rw [upd_ne dl]; exact hn
        refine p1 σ la1 _ _ ((ExtE.fresh hl1).trans (.fresh hn2)).ext (R2.extE (.fresh hn2) (R2.rs.fresh hn2)) (.inr ⟨by simp, dx, _, rfl, upd_same, .ref l, [], rfl, ?_, rfl⟩)
        have tup : RW g la1 (upd H1 l (.tup us)) (.tup ws) (.ref l) := by
          simp only [RW]
          exact ⟨l, us, rfl, .of upd_same, z, r2.ext R1.rs (ExtE.fresh hl1).ext⟩
        exact tup.ext R2.rs (ExtE.fresh hn2).ext
    · refine .inr ⟨keepT hs, fun dx n m => ⟨rfl, dx, [(Str.ofString f1, .ref q0)], upd_same, ?_, ?_, ?_⟩⟩
      · rw [upd_ne m, upd_same]
      · rw [upd_ne m] at n; exact n
      · have hn : H1 dx = none := by rw [upd_ne m] at n; exact n
        rw [upd_x hq m]
        refine p1 σ la1 _ _ (ExtE.fresh hn).ext (R1.extE (.fresh hn) (R1.rs.fresh hn)) (.inr ⟨by simp, dx, _, rfl, upd_same, .ref q0, [], rfl, ?_, rfl⟩)
        have tup : RW g la1 H1 (.tup ws) (.ref q0) := by
          simp only [RW]
          exact ⟨q0, us, rfl, by rw [hK]; exact hs, z, r2⟩
        exact tup.ext R1.rs (ExtE.fresh hn).ext
end
end Hb

end

section
set_option Elab.async false
set_option linter.all false
set_option maxRecDepth 100000
set_option maxHeartbeats 4000000
/-! Hb11: try, with any clauses. -/
namespace Hb
open PySem PySem.Spec PyProof.Rows L2

/-- a clause: what it names, the slot of its name, what its suite does -/
structure Cl where
  c : Value
  i : Option Nat
  ts : Addr → Value → Option Addr → TS
/-- behind a suite the name is gone -/
def endsN (i : Nat) (D : Ends) : Ends := { nx := fun σ' H' => D.nx (σ'.set i none) H', rt := D.rt, bk := fun σ' H' => D.bk (σ'.set i none) H', ct := fun σ' H' => D.ct (σ'.set i none) H' }
def Cl.run (q : Cl) (a : Addr) (cls : Value) (d : Option Addr) (D : Ends) (σ : L2.St) (H : Hp) : Prop := match q.i with
  | none => q.ts a cls d D σ H
  | some i => q.ts a cls d (endsN i D) (σ.set i (some (.ref a))) H
def wCl (K : PySem.W.Frag) (Wout : WX) (D : Ends) : List Cl → WX
  | [] => Wout
  | q :: r => fun cls d σ H => ∃ b, PySem.W.exmOne K cls q.c = some b ∧ (b = true → ∀ a, H a = none → q.run a cls d D σ H) ∧ (b = false → wCl K Wout D r cls d σ H)
/-- a suite, where the exception is handled -/
def Suite (X : Cx) (sms : List Stmt) (ts : Addr → Value → Option Addr → TS) : Prop := ∀ (a : Addr) (oe : Obj) (cls : Value) (d : Option Addr) (pn : List (Addr × Obj)), L2N.Zn cls d oe → (∃ vs, oe.data = .fields vs) → PSs (X.suite a ((a, oe) :: pn)) sms (ts a cls d)
inductive ClOk (X : Cx) : List ExceptHandler → List Cl → Prop
  | nil : ClOk X [] []
  | only {x : Str} {c : Value} {ts : Addr → Value → Option Addr → TS} {s0 : Stmt} {sms : List Stmt} {np hp : Pos} {hs : List ExceptHandler} {l : List Cl} (hc : Names X x c) (hsu : Suite X (s0 :: sms) ts) (r : ClOk X hs l) :
      ClOk X (.ExceptHandler (some (.Name x np)) none (s0 :: sms) hp :: hs) (⟨c, none, ts⟩ :: l)
  | named {x n : Str} {c : Value} {i : Nat} {ts : Addr → Value → Option Addr → TS} {s0 : Stmt} {sms : List Stmt} {np hp : Pos} {hs : List ExceptHandler} {l : List Cl} (hc : Names X x c) (hi : X.N[i]? = some n) (hln : X.env.kindOf n = some .local)
      (hsu : Suite X (s0 :: sms) ts) (r : ClOk X hs l) : ClOk X (.ExceptHandler (some (.Name x np)) (some n) (s0 :: sms) hp :: hs) (⟨c, some i, ts⟩ :: l)
section
variable {X : Cx} {body : List Stmt} {h0 : ExceptHandler} {hs : List ExceptHandler} {l : List Cl} {pos : Pos} {tb : WX → TS} {Wout : WX}
theorem ps_try_cls (hst : X.stack = X.env :: X.outer) (hf : X.env.frame = some X.env.locals) (hN : X.N.Nodup) (tk : L2N.Takes X Wout)
    (hb : ∀ (W : WX) (pn : List (Addr × Obj)) (xe : Value → Shared → Prop), L2N.Takes (X.tr pn xe) W → PassesOwn (model X.prog X.w) X.A X.env xe → PSs (X.tr pn xe) body (tb W)) (hh : ClOk X (h0 :: hs) l) :
    PS X (.Try body (h0 :: hs) [] [] pos) (fun D σ H => tb (wCl X.K Wout D l) D σ H) := ⟨fun pins s σ H D I h => by
  have okX := I.ok
  have fr : X.A.frames = some (X.env :: X.outer) := by rw [okX.frames, hst]
  let xeB : Value → Shared → Prop := fun e s1 => wpAny (model X.prog X.w) X.A (noteFrame e X.env)
    (fun _ s2 => wpAny (model X.prog X.w) X.A (setFlight e none)
      (fun _ s3 => wpAny (model X.prog X.w) X.A (handleBy e X.env (h0 :: hs)) (SP X pins D) X.xe s3) X.xe s2) X.xe s1
  have tkB : L2N.Takes (X.tr (X.pn ++ pins) xeB) (wCl X.K Wout D l) := fun u s' xx => by
    obtain ⟨a, Bh, sI, pins', τ, G, cls, d, rfl, J', nb, up, sky, na, os, ag, w⟩ := xx
    have J : Inv X pins τ G sI := J'.ofTry okX
    have sky' : Sky Bh (X.env :: X.outer) a (L2N.Zn cls d) X.env.locals s'.heap := by
      rw [← hst]; exact sky
    show wpAny (model X.prog X.w) X.A (noteFrame (.ref a) X.env) _ _ _
    refine L2N.Sky.land L2N.Zn.steady fr hf sky' fun h3 fl up3 => ?_
    have up4 := up.trans up3
    have J3 : Inv X pins τ G { s' with heap := h3 } := J.landed nb fl.1 up4 os ag
    obtain ⟨oe, vs, he, hz, hd⟩ := fl.there
    have off : ∀ {h : Heap} {o : Obj} {us : Array Value}, h.FunFrames Bh (X.env :: X.outer) → h.get? a = some o → o.data = .fields us → a ∉ frs (X.env :: X.outer) := fun {h o us} ff e dd hm => by
      obtain ⟨_, o', e', no⟩ := ff.mem hm
      rw [e] at e'; cases e'
      exact no _ dd
    have nfr := off fl.2.2.1 he hd
    have nL : a ≠ X.env.locals := fun z => nfr (List.mem_filterMap.mpr ⟨X.env, List.mem_cons_self, by rw [hf, z]⟩)
    have nF : a ∉ X.fs := fun hm => by
      obtain ⟨y, hy, q⟩ := List.mem_filterMap.mp hm
      exact nfr (List.mem_filterMap.mpr ⟨y, List.mem_cons_of_mem _ hy, q⟩)
    have S3 := J3.suite he hd na nL nF
    have LT : PySem.W.Looks (model X.prog X.w) h3 (typeOf (.ref a)) cls := fun A Q E s k q => wpAny_typeOf_ref (k _ _ he) (by rw [hz.1]; exact q)
    -- a clause's test
    have test : ∀ {x : Str} {c : Value} {np : Pos} {Q E : Value → Shared → Prop}, Names X x c → Q c { s' with heap := h3 } → wpAny (model X.prog X.w) (X.A.mark (some (.ref a))) (eval (.Name x np) X.env) Q E { s' with heap := h3 } := fun {x c np Q E} hc q => by
      obtain ⟨hg, hdb, hm | ⟨hm, hv, hn⟩⟩ := hc
      · exact ld_glob (X := X.suite a ((a, oe) :: (X.pn ++ pins))) S3 hg hm q hdb
      · exact ld_blt (X := X.suite a ((a, oe) :: (X.pn ++ pins))) S3 hg hm hv q hn hdb
    -- the handled exception is laid down once more
    have again : ∀ {R : Unit → Shared → Prop}, (∀ (h4 : Heap) (o4 : Obj), L2N.Zn cls d o4 → (∃ us, o4.data = .fields us) → Inv (X.suite a ((a, o4) :: (X.pn ++ pins))) [] τ G { s' with heap := h4 } → R () { s' with heap := h4 }) →
        ∀ h4, HandSPX.FlyingZ Bh (X.env :: X.outer) a (L2N.Zn cls d) h4 → h3.UpToSlots h4 → R () { s' with heap := h4 } := fun {R} k h4 fl4 u4 => by
      have J4 : Inv X pins τ G { s' with heap := h4 } := J.landed nb fl4.1 (up4.trans u4) os ag
      obtain ⟨o4, v4, e4, z4, d4⟩ := fl4.there
      exact k h4 o4 z4 ⟨_, d4⟩ (J4.suite e4 d4 na nL nF)
    have go : ∀ {hs' : List ExceptHandler} {l' : List Cl}, ClOk X hs' l' → wCl X.K Wout D l' cls d τ G → wpAny (model X.prog X.w) X.A (handleBy (.ref a) X.env hs') (SP X pins D) X.xe { s' with heap := h3 } := by
      intro hs' l' hk
      induction hk with
      | nil =>
        intro w
        refine wpAny_handleBy_nil ?_
        obtain ⟨_, _, _, ob, us, T, _, _, ho, _, hdd, h1, _⟩ := id fl
        unfold PySem.passOn
        refine wpAny_bind (wpAny_field ho hdd h1 ?_)
        rw [if_neg (show ¬ ((Value.ref T == Value.none) = true) from by simp)]
        have out : wpAny (model X.prog X.w) X.A (setFlight (.ref a) X.env.frame) (fun _ s4 => wpAny (model X.prog X.w) X.A (throw (.ref a) : Sem Flow) (SP X pins D) X.xe s4) X.xe { s' with heap := h3 } := by
          rw [hf]
          refine HandSPX.setFlight_upZ fl fun h4 hh u4 => wpAny_throw (tk _ _ ⟨a, Bh, sI, pins, τ, G, cls, d, rfl, J, nb, up4.trans u4, .inr (.inr ?_), na, os, ag, w⟩)
          rw [hst]; exact hh
        first
          | exact wpAny_bind out
          | exact wpAny_bind (wpAny_pure (wpAny_bind out))
      | @only x c ts s0 sms np hp hs2 l2 hc hsu r ih =>
        intro w
        obtain ⟨b, t1, yes, no⟩ := w
        refine wpAny_handleBy_cons (codeAny_handlers_test ?_) (by intro q; cases q)
        refine test hc ((PySem.W.exm_one (M := model X.prog X.w) J3.kIn LT t1).here ?_)
        cases b with
        | false =>
          show wpAny _ X.A (handleBy (.ref a) X.env hs2) _ _ _
          exact ih (no rfl)
        | true =>
          refine codeAny_handlers_suite (HandSPX.lands_againZ fl fun h4 fl4 u4 => ?_)
          have J4 : Inv X pins τ G { s' with heap := h4 } := J.landed nb fl4.1 (up4.trans u4) os ag
          obtain ⟨o4, v4, e4, z4, d4⟩ := fl4.there
          refine wpAny_mono ((hsu a o4 cls d (X.pn ++ pins) z4 ⟨_, d4⟩).run [] _ _ G _ (J4.suite e4 d4 na nL nF) (yes rfl a na)) (fun f s6 o => ?_) (fun _ _ z => z.elim)
          cases f with
          | next => obtain ⟨_, _, S6, q⟩ := o; exact ⟨_, _, S6.unsuite okX, q⟩
          | brk => obtain ⟨_, _, S6, q⟩ := o; exact ⟨_, _, S6.unsuite okX, q⟩
          | cont => obtain ⟨_, _, S6, q⟩ := o; exact ⟨_, _, S6.unsuite okX, q⟩
          | ret u => obtain ⟨_, _, _, S6, rv, q⟩ := o; exact ⟨_, _, _, S6.unsuite okX, rv, q⟩
      | @named x n c i ts s0 sms np hp hs2 l2 hc hi hln hsu r ih =>
        intro w
        obtain ⟨b, t1, yes, no⟩ := w
        refine wpAny_handleBy_cons (codeAny_handlers_test ?_) (by intro q; cases q)
        refine test hc ((PySem.W.exm_one (M := model X.prog X.w) J3.kIn LT t1).here ?_)
        cases b with
        | false =>
          show wpAny _ X.A (handleBy (.ref a) X.env hs2) _ _ _
          exact ih (no rfl)
        | true =>
          refine codeAny_handlers_suite_as (HandSPX.lands_againZ fl fun h4 fl4 u4 => ?_)
          have J4 : Inv X pins τ G { s' with heap := h4 } := J.landed nb fl4.1 (up4.trans u4) os ag
          obtain ⟨o4, v4, e4, z4, d4⟩ := fl4.there
          refine store_ok (X := X.suite a ((a, o4) :: (X.pn ++ pins))) (v := .ref a) (J4.suite e4 d4 na nL nF) hN hi (.inl hln) rfl (fun s5 S5 => ?_) (.inr hln)
          refine wpAny_mono ((hsu a o4 cls d (X.pn ++ pins) z4 ⟨_, d4⟩).run [] s5 _ G _ S5 (yes rfl a na)) (fun f s6 o => ?_) (fun _ _ z => z.elim)
          have gone : ∀ {σ6 : L2.St} {H6 : Hp} {Q : Shared → Prop}, Inv (X.suite a ((a, o4) :: (X.pn ++ pins))) [] σ6 H6 s6 → (∀ s7, Inv X pins (σ6.set i none) H6 s7 → Q s7) →
              wpAny (model X.prog X.w) X.A (do bindName X.env n .none; unbindBehindTheSuite X.env n hp) (fun _ s7 => Q s7) X.xe s6 := fun {σ6 H6 Q} S6 k => gone_ok (S6.unsuite okX) hN hi hln k
          cases f with
          | next => obtain ⟨_, _, S6, q⟩ := o; exact gone S6 fun s7 J7 => ⟨_, _, J7, q⟩
          | brk => obtain ⟨_, _, S6, q⟩ := o; exact gone S6 fun s7 J7 => ⟨_, _, J7, q⟩
          | cont => obtain ⟨_, _, S6, q⟩ := o; exact gone S6 fun s7 J7 => ⟨_, _, J7, q⟩
          | ret u => obtain ⟨_, _, _, S6, rv, q⟩ := o; exact gone S6 fun s7 J7 => ⟨_, _, _, J7, rv, q⟩
    exact go hh w
  refine wpAny_Try_except (wpAny_mono ((hb (wCl X.K Wout D l) (X.pn ++ pins) xeB tkB PassesOwn.looking).run [] s σ H D (I.toTry _) h) (fun f s1 o => ?_) (fun e s1 he => he))
  cases f with
  | next => obtain ⟨τ, G, J, q⟩ := o; exact wpAny_execs_nil ⟨τ, G, J.ofTry okX, q⟩
  | brk => obtain ⟨τ, G, J, q⟩ := o; exact ⟨τ, G, J.ofTry okX, q⟩
  | cont => obtain ⟨τ, G, J, q⟩ := o; exact ⟨τ, G, J.ofTry okX, q⟩
  | ret u => obtain ⟨v, τ, G, J, rv, q⟩ := o; exact ⟨v, τ, G, J.ofTry okX, rv, q⟩⟩
end
end Hb

end

section
set_option Elab.async false
set_option linter.all false
set_option maxRecDepth 100000
set_option maxHeartbeats 4000000
/-! Hb12: try, as statements; suites; handled exceptions handed on. -/
namespace Hb
open PySem PySem.Spec PyProof.Rows L2

/-! ### other handled exceptions -/
def Glo.wp (g : Glo) (p : Addr → Nat → Option Addr → Prop) : Glo := { g with pn := p }
section
variable {g : Glo} {p : Addr → Nat → Option Addr → Prop} {la : Lay} {H : Hp} {st : Store}
mutual
theorem RW_wp : ∀ {w : W} {v : V}, RW (g.wp p) la H w v ↔ RW g la H w v
  | .non, v => by simp only [RW]
  | .bl b, v => by simp only [RW]
  | .int i, v => by simp only [RW]
  | .str l, v => by simp only [RW]
  | .cl c, v => by simp only [RW]; exact Iff.rfl
  | .lr ws, v => by simp only [RW]
  | .ref n, v => by simp only [RW]
  | .tup ws, v => by
    simp only [RW]
    constructor
    · rintro ⟨a, vs, q, s, z, r⟩; exact ⟨a, vs, q, s, z, RWs_wp.mp r⟩
    · rintro ⟨a, vs, q, s, z, r⟩; exact ⟨a, vs, q, s, z, RWs_wp.mpr r⟩
  | .im ws, v => by
    simp only [RW]
    constructor
    · rintro ⟨a, vs, q, s, n, m, z, r⟩; exact ⟨a, vs, q, s, n, m, z, RWs_wp.mp r⟩
    · rintro ⟨a, vs, q, s, n, m, z, r⟩; exact ⟨a, vs, q, s, n, m, z, RWs_wp.mpr r⟩
  | .sc ws, v => by
    simp only [RW]
    constructor
    · rintro ⟨a, vs, q, s, z, r⟩; exact ⟨a, vs, q, s, z, RWs_wp.mp r⟩
    · rintro ⟨a, vs, q, s, z, r⟩; exact ⟨a, vs, q, s, z, RWs_wp.mpr r⟩
theorem RWs_wp : ∀ {ws : List W} {vs : List V}, RWs (g.wp p) la H ws vs ↔ RWs g la H ws vs
  | [], vs => by simp only [RWs]
  | w :: ws, vs => by
    simp only [RWs]
    constructor
    · rintro ⟨v, t, q, r, s⟩; exact ⟨v, t, q, RW_wp.mp r, RWs_wp.mp s⟩
    · rintro ⟨v, t, q, r, s⟩; exact ⟨v, t, q, RW_wp.mpr r, RWs_wp.mpr s⟩
end
theorem RFs_wp : ∀ {ws : List (String × W)} {vs : List (Str × V)}, RFs (g.wp p) la H ws vs ↔ RFs g la H ws vs
  | [], vs => Iff.rfl
  | (f, w) :: ws, vs => by
    constructor
    · rintro ⟨v, t, q, r, s⟩; exact ⟨v, t, q, RW_wp.mp r, RFs_wp.mp s⟩
    · rintro ⟨v, t, q, r, s⟩; exact ⟨v, t, q, RW_wp.mpr r, RFs_wp.mpr s⟩
theorem RKs_wp : ∀ {ws : List (W × W)} {vs : List (Key × V)}, RKs (g.wp p) la H ws vs ↔ RKs g la H ws vs
  | [], vs => Iff.rfl
  | (f, w) :: ws, vs => by
    constructor
    · rintro ⟨x, v, t, q, k, r, s⟩; exact ⟨x, v, t, q, k, RW_wp.mp r, RKs_wp.mp s⟩
    · rintro ⟨x, v, t, q, k, r, s⟩; exact ⟨x, v, t, q, k, RW_wp.mpr r, RKs_wp.mpr s⟩
theorem RX_wp {fs : List (String × W)} {d : Option Addr} : RX (g.wp p) la H fs d ↔ RX g la H fs d := by
  constructor
  · rintro (h | ⟨n, a, fvs, h1, h2, h3⟩)
    · exact .inl h
    · exact .inr ⟨n, a, fvs, h1, h2, RFs_wp.mp h3⟩
  · rintro (h | ⟨n, a, fvs, h1, h2, h3⟩)
    · exact .inl h
    · exact .inr ⟨n, a, fvs, h1, h2, RFs_wp.mpr h3⟩
theorem RC_wp {a : Addr} {c : Cell} : RC (g.wp p) la H a c ↔ RC g la H a c := by
  cases c with
  | lst ws => exact ⟨fun ⟨vs, q, z, r⟩ => ⟨vs, q, z, RWs_wp.mp r⟩, fun ⟨vs, q, z, r⟩ => ⟨vs, q, z, RWs_wp.mpr r⟩⟩
  | ins c fs => exact ⟨fun ⟨dx, fvs, q, r⟩ => ⟨dx, fvs, q, RFs_wp.mp r⟩, fun ⟨dx, fvs, q, r⟩ => ⟨dx, fvs, q, RFs_wp.mpr r⟩⟩
  | dic kvs => exact ⟨fun ⟨k, q, r⟩ => ⟨k, q, RKs_wp.mp r⟩, fun ⟨k, q, r⟩ => ⟨k, q, RKs_wp.mpr r⟩⟩
theorem RS_wp : RS (g.wp p) la st H ↔ RS g la st H := ⟨fun r => ⟨r.len, r.nd, fun n c a h1 h2 => RC_wp.mp (r.at_ n c a h1 h2), r.lvo⟩, fun r => ⟨r.len, r.nd, fun n c a h1 h2 => RC_wp.mpr (r.at_ n c a h1 h2), r.lvo⟩⟩
/-- no slot holds an exception -/
def noX : Env → Bool
  | [] => true
  | .x _ _ :: _ => false
  | _ :: r => noX r
theorem noX_at : ∀ {env : Env} {i c : Nat} {fs : List (String × W)}, noX env = true → env[i]? ≠ some (.x c fs)
  | [], i, c, fs, _ => by simp
  | s :: r, 0, c, fs, h => by
    cases s <;> simp [noX] at h ⊢
  | s :: r, i + 1, c, fs, h => by
    have h' : noX r = true := by cases s <;> simp [noX] at h ⊢ <;> exact h
    simpa using noX_at (i := i) (c := c) (fs := fs) h'
variable {B : Base} {env : Env} {σ : L2.St}
theorem Rel.out (R : Rel (g.wp p) B env σ la st H) (h : noX env = true) : Rel g B env σ la st H where
  rs := RS_wp.mp R.rs
  len := R.len
  val := fun i w e => by obtain ⟨v, q, r⟩ := R.val i w e; exact ⟨v, q, RW_wp.mp r⟩
  lst := fun i ws e => by obtain ⟨q, us, h1, h2, h3, h4, h5, h6⟩ := R.lst i ws e; exact ⟨q, us, h1, h2, h3, h4, h5, RWs_wp.mp h6⟩
  dis := R.dis
  exc := fun i c fs e => absurd e (noX_at h)
  pre := R.pre
  new := R.new
  keep := R.keep
  lvs := R.lvs
  own := R.own
/-- slot i: the exception at a -/
theorem Rel.held (R : Rel g B env σ la st H) (h0 : ∀ a c d, ¬ g.pn a c d) (i : Nat) {a : Addr} {c : Nat} {fs : List (String × W)} {d : Option Addr} (hp : p a c d) (r : RX g la H fs d) : Rel (g.wp p) B (env.set i (.x c fs)) (σ.set i (some (.ref a))) la st H where
  rs := RS_wp.mpr R.rs
  len := by simp [R.len]
  val := fun j w e => by
    by_cases hj : i = j
    · subst hj
      have hl : i < env.length := by
        have := (List.getElem?_eq_some_iff.mp e).1
        simpa using this
      rw [List.getElem?_set_self hl] at e; cases e
    · rw [List.getElem?_set_ne hj] at e
      rw [List.getElem?_set_ne hj]
      obtain ⟨v, q, r⟩ := R.val j w e
      exact ⟨v, q, RW_wp.mpr r⟩
  lst := fun j ws e => by
    by_cases hj : i = j
    · subst hj
      have hl : i < env.length := by
        have := (List.getElem?_eq_some_iff.mp e).1
        simpa using this
      rw [List.getElem?_set_self hl] at e; cases e
    · rw [List.getElem?_set_ne hj] at e
      rw [List.getElem?_set_ne hj]
      obtain ⟨q, us, h1, h2, h3, h4, h5, h6⟩ := R.lst j ws e
      exact ⟨q, us, h1, h2, h3, h4, h5, RWs_wp.mpr h6⟩
  dis := fun j k ws ws' q hjk h1 h2 h3 => by
    have nj : i ≠ j := fun q => by
      subst q
      have hl : i < env.length := by
        have := (List.getElem?_eq_some_iff.mp h1).1
        simpa using this
      rw [List.getElem?_set_self hl] at h1; cases h1
    have nk : i ≠ k := fun q => by
      subst q
      have hl : i < env.length := by
        have := (List.getElem?_eq_some_iff.mp h2).1
        simpa using this
      rw [List.getElem?_set_self hl] at h2; cases h2
    rw [List.getElem?_set_ne nj] at h1 h3
    rw [List.getElem?_set_ne nk] at h2 ⊢
    exact R.dis j k ws ws' q hjk h1 h2 h3
  exc := fun j c' fs' e => by
    by_cases hj : i = j
    · subst hj
      have hl : i < env.length := by
        have := (List.getElem?_eq_some_iff.mp e).1
        simpa using this
      rw [List.getElem?_set_self hl] at e
      cases e
      exact ⟨a, d, List.getElem?_set_self (by rw [← R.len]; exact hl), hp, RX_wp.mpr r⟩
    · rw [List.getElem?_set_ne hj] at e
      obtain ⟨_, _, _, h, _⟩ := R.exc j c' fs' e
      exact absurd h (h0 _ _ _)
  pre := R.pre
  new := R.new
  keep := R.keep
  lvs := R.lvs
  own := R.own
end
/-! ### try -/
structure ClF where
  test : Nat → Option Bool
  i : Option Nat
  f : FS
def aftN (o : SO) : SO := match o with
  | .exc _ _ _ _ => .bad
  | o => o
def aftX (i : Nat) (o : SO) : SO := match o with
  | .nx e st => if noX (e.set i .no) then .nx (e.set i .no) st else .bad
  | .bk e st => if noX (e.set i .no) then .bk (e.set i .no) st else .bad
  | .ct e st => if noX (e.set i .no) then .ct (e.set i .no) st else .bad
  | .rt w st => .rt w st
  | _ => .bad
def catchF (c : Nat) (fs : List (String × W)) (env : Env) (st : Store) : List ClF → SO
  | [] => .exc c fs env st
  | q :: r => match q.test c with
    | some true => (match q.i with
      | none => aftN (q.f env st)
      | some i => aftX i (q.f (env.set i (.x c fs)) st))
    | some false => catchF c fs env st r
    | none => .bad
def sTry (fb : FS) (cl : List ClF) : FS := fun env st => match fb env st with
  | .exc c fs e st' => catchF c fs e st' cl
  | o => o
def heldP (g : Glo) (a : Addr) (cls : Value) (d : Option Addr) : Addr → Nat → Option Addr → Prop := fun a' c' d' => a' = a ∧ Value.ref (g.ca c') = cls ∧ d' = d
/-- the clauses, read -/
inductive ClsD (X : Cx) (g : Glo) : List ExceptHandler → List ClF → Prop
  | nil : ClsD X g [] []
  | only {x : Str} {c : Value} {s0 : Stmt} {sms : List Stmt} {np hp : Pos} {hs : List ExceptHandler} {l : List ClF} {test : Nat → Option Bool} {f : FS} (hc : Names X x c) (ht : ∀ k b, test k = some b → PySem.W.exmOne X.K (.ref (g.ca k)) c = some b)
      (hsu : ∀ (a : Addr) (oe : Obj) (cls : Value) (d : Option Addr) (pn : List (Addr × Obj)), L2N.Zn cls d oe → (∃ vs, oe.data = .fields vs) → DSs (X.suite a ((a, oe) :: pn)) g WxF (s0 :: sms) f) (r : ClsD X g hs l) :
      ClsD X g (.ExceptHandler (some (.Name x np)) none (s0 :: sms) hp :: hs) (⟨test, none, f⟩ :: l)
  | named {x n : Str} {c : Value} {i : Nat} {s0 : Stmt} {sms : List Stmt} {np hp : Pos} {hs : List ExceptHandler} {l : List ClF} {test : Nat → Option Bool} {f : FS} (hc : Names X x c) (hi : X.N[i]? = some n) (hln : X.env.kindOf n = some .local) (ht : ∀ k b, test k = some b → PySem.W.exmOne X.K (.ref (g.ca k)) c = some b)
      (hsu : ∀ (a : Addr) (oe : Obj) (cls : Value) (d : Option Addr) (pn : List (Addr × Obj)), L2N.Zn cls d oe → (∃ vs, oe.data = .fields vs) → DSs (X.suite a ((a, oe) :: pn)) (g.wp (heldP g a cls d)) WxF (s0 :: sms) f) (r : ClsD X g hs l) :
      ClsD X g (.ExceptHandler (some (.Name x np)) (some n) (s0 :: sms) hp :: hs) (⟨test, some i, f⟩ :: l)
section
variable {X : Cx} {g : Glo} {Wx : WX}
/-- the clauses that the layer's rule takes, and that they ask no more than catchF says -/
theorem ClsD.cls (h0 : ∀ a c d, ¬ g.pn a c d) : ∀ {hs : List ExceptHandler} {l : List ClF}, ClsD X g hs l → ∃ cl, ClOk X hs cl ∧ ∀ {B : Base} {env : Env} {σ : L2.St} {la : Lay} {st : Store} {H : Hp} {D : Ends} {c : Nat} {fs : List (String × W)} {d : Option Addr},
    Rel g B env σ la st H → RX g la H fs d → PostS g Wx B la H D (catchF c fs env st l) → wCl X.K Wx D cl (.ref (g.ca c)) d σ H := by
  intro hs l h
  induction h with
  | nil => exact ⟨[], .nil, fun {B env σ la st H D c fs d} R rx p => p σ la H d .refl R rx⟩
  | @only x c s0 sms np hp hs l test f hc ht hsu r ih =>
    obtain ⟨cl, ok, im⟩ := ih
    refine ⟨⟨c, none, fun _ _ _ D σ H => SS g WxF f D σ H⟩ :: cl, .only hc (fun a oe cls d pn z1 z2 => hsu a oe cls d pn z1 z2) ok, fun {B env σ la st H D k fs d} R rx p => ?_⟩
    unfold catchF at p
    simp only at p
    cases e : test k with
    | none => rw [e] at p; exact p.elim
    | some b =>
      rw [e] at p
      refine ⟨b, ht k b e, fun hb a ha => ?_, fun hb => ?_⟩
      · subst hb
        refine ⟨B, env, la, st, R, ?_⟩
        simp only at p
        cases ef : f env st with
        | exc c fs e s => rw [ef] at p; exact p.elim
        | bad => rw [ef] at p; exact p
        | nx e s => rw [ef] at p; exact p
        | bk e s => rw [ef] at p; exact p
        | ct e s => rw [ef] at p; exact p
        | rt w s => rw [ef] at p; exact p
      · subst hb; exact im R rx p
  | @named x n c i s0 sms np hp hs l test f hc hi hln ht hsu r ih =>
    obtain ⟨cl, ok, im⟩ := ih
    refine ⟨⟨c, some i, fun a cls d D σ H => SS (g.wp (heldP g a cls d)) WxF f D σ H⟩ :: cl, .named hc hi hln (fun a oe cls d pn z1 z2 => hsu a oe cls d pn z1 z2) ok, fun {B env σ la st H D k fs d} R rx p => ?_⟩
    unfold catchF at p
    simp only at p
    cases e : test k with
    | none => rw [e] at p; exact p.elim
    | some b =>
      rw [e] at p
      refine ⟨b, ht k b e, fun hb a ha => ?_, fun hb => ?_⟩
      · subst hb
        refine ⟨B, env.set i (.x k fs), la, st, R.held h0 i ⟨rfl, rfl, rfl⟩ rx, ?_⟩
        simp only at p
        cases ef : f (env.set i (.x k fs)) st with
        | exc c fs e s => rw [ef] at p; exact p.elim
        | bad => rw [ef] at p; exact p
        | nx e s =>
          rw [ef] at p
          simp only [aftX] at p
          intro σ' la' H' xx R'
          by_cases hx : noX (e.set i .no) = true
          · rw [if_pos hx] at p; exact p _ la' H' xx ((R'.unset i none).out hx)
          · rw [if_neg hx] at p; exact p.elim
        | bk e s =>
          rw [ef] at p
          simp only [aftX] at p
          intro σ' la' H' xx R'
          by_cases hx : noX (e.set i .no) = true
          · rw [if_pos hx] at p; exact p _ la' H' xx ((R'.unset i none).out hx)
          · rw [if_neg hx] at p; exact p.elim
        | ct e s =>
          rw [ef] at p
          simp only [aftX] at p
          intro σ' la' H' xx R'
          by_cases hx : noX (e.set i .no) = true
          · rw [if_pos hx] at p; exact p _ la' H' xx ((R'.unset i none).out hx)
          · rw [if_neg hx] at p; exact p.elim
        | rt w s =>
          rw [ef] at p
          exact fun la' H' v xx rs rw_ => p la' H' v xx (RS_wp.mp rs) (RW_wp.mp rw_)
      · subst hb; exact im R rx p
theorem ds_try {body : List Stmt} {h1 : ExceptHandler} {hs : List ExceptHandler} {pos : Pos} {fb : FS} {l : List ClF} (h0 : ∀ a c d, ¬ g.pn a c d) (hst : X.stack = X.env :: X.outer) (hf : X.env.frame = some X.env.locals) (hN : X.N.Nodup) (tk : L2N.Takes X Wx)
    (hb : ∀ (W : WX) (pn : List (Addr × Obj)) (xe : Value → Shared → Prop), L2N.Takes (X.tr pn xe) W → PassesOwn (model X.prog X.w) X.A X.env xe → DSs (X.tr pn xe) g W body fb) (hh : ClsD X g (h1 :: hs) l) :
    DS X g Wx (.Try body (h1 :: hs) [] [] pos) (sTry fb l) := by
  obtain ⟨cl, ok, im⟩ := ClsD.cls (Wx := Wx) h0 hh
  refine PS.imp (ps_try_cls hst hf hN tk (fun W pn xe t1 t2 => hb W pn xe t1 t2) ok) fun D σ H ⟨B, env, la, st, R, p⟩ => ⟨B, env, la, st, R, ?_⟩
  unfold sTry at p
  cases e : fb env st with
  | exc c fs e2 st' =>
    rw [e] at p
    exact fun σ' la' H' d x R' rx => im R' rx (PostS.later p x)
  | bad => rw [e] at p; exact p
  | nx e s => rw [e] at p; exact p
  | bk e s => rw [e] at p; exact p
  | ct e s => rw [e] at p; exact p
  | rt w s => rw [e] at p; exact p
end
end Hb

end

section
set_option Elab.async false
set_option linter.all false
set_option maxRecDepth 100000
set_option maxHeartbeats 4000000
/-! Hb13: isinstance, fields of a handled exception, items stored, del. -/
namespace Hb
open PySem PySem.Spec PyProof.Rows L2

/-- a value's built-in type -/
def tyW (st : Store) : W → Option String
  | .non => some "NoneType"
  | .bl _ => some "bool"
  | .int _ => some "int"
  | .str _ => some "str"
  | .tup _ => some "tuple"
  | .im _ => some "list"
  | .lr _ => some "list"
  | .sc _ => some "list"
  | .ref n => (match st[n]? with
    | some (.lst _) => some "list"
    | some (.dic _) => some "dict"
    | _ => none)
  | _ => none
def isT (t T : String) : Bool := t == T || (t == "bool" && T == "int")
def tys : List String := ["NoneType", "bool", "int", "str", "tuple", "list", "dict"]
theorem tyW_mem {st : Store} {w : W} {t : String} (h : tyW st w = some t) : t ∈ tys := by
  cases w <;> simp only [tyW, Option.some.injEq, reduceCtorEq] at h <;> try (subst h; decide)
  split at h <;> simp only [Option.some.injEq, reduceCtorEq] at h <;> (subst h; decide)
theorem kitB_tys : (tys.all fun t => tys.all fun T => decide (kitB t T = some (isT t T))) = true := by decide +kernel
theorem kit_tys {t T : String} (h : t ∈ tys) (h2 : T ∈ tys) : kitB t T = some (isT t T) := of_decide_eq_true (List.all_eq_true.mp (List.all_eq_true.mp kitB_tys t h) T h2)
section
variable {X : Cx} {g : Glo} {Wx : WX} {a b c e o : Expr} {fa fb fc fe fo fi : FE} {pos p p' p2 p3 apos : Pos}
theorem sqL_ty {K : PySem.W.Frag} {H : Hp} {a : Addr} {xs : List V} (h : SqL K H a xs) : TyX K H (.ref a) (.type "list") := by
  rcases h with (h | ⟨o, h⟩) | ⟨o, its, n, h1, h2, _⟩
  · exact .base (.lst h)
  · exact .base (.frz h)
  · exact .kList h1 h2
theorem sqT_ty {K : PySem.W.Frag} {H : Hp} {a : Addr} {xs : List V} (h : SqT K H a xs) : TyX K H (.ref a) (.type "tuple") := by
  rcases h with (h | ⟨o, h⟩) | ⟨o, its, n, h1, h2, _⟩
  · exact .base (.tup h)
  · exact .fTuple h
  · exact .kTuple h1 h2
theorem ty_of (hK : g.K = X.K) {la : Lay} {st : Store} {H : Hp} {w : W} {v : V} {t : String} (rs : RS g la st H) (r : RWx g la H w v) (h : tyW st w = some t) : TyX X.K H v (.type t) := by
  cases w <;> simp only [tyW, Option.some.injEq, reduceCtorEq] at h
  · subst h; rw [r.non]; exact .base .non
  · subst h; rw [r.bl]; exact .base (.bl _)
  · subst h; rw [r.int]; exact .base (.int _)
  · subst h; rw [r.str]; exact .base (.str _)
  · subst h
    simp only [RWx, RW] at r
    obtain ⟨a, vs, rfl, s, _⟩ := r
    rw [hK] at s
    exact sqT_ty s
  · rename_i n
    simp only [RWx, RW] at r
    obtain ⟨a, ha, rfl⟩ := r
    cases e : st[n]? with
    | none => rw [e] at h; cases h
    | some c =>
      have q := rs.at_ n c a e ha
      rw [e] at h
      cases c with
      | lst ws => cases h; obtain ⟨vs, q, _⟩ := q; exact .base (.lst q)
      | dic ks => cases h; obtain ⟨ks, q, _⟩ := q; exact .base (.dK q)
      | ins c fs => cases h
  · subst h
    simp only [RWx, RW] at r
    obtain ⟨a, vs, rfl, s, _⟩ := r
    exact .base (.lst s)
  · subst h
    simp only [RWx] at r
    obtain ⟨a, vs, rfl, s, _⟩ := r
    exact .base (.lst s)
  · subst h
    simp only [RWx, RW] at r
    obtain ⟨a, vs, rfl, s, _⟩ := r
    rw [hK] at s
    exact sqL_ty s.sq
/-- isinstance(e, T), T a built-in type -/
def eIsT (T : String) (fe : FE) : FE := eUn (fun w st => match tyW st w with
  | some t => .ok (.bl (isT t T)) st
  | none => .bad) fe
theorem de_isT {T : String} (hK : g.K = X.K) (hT : T ∈ tys) (hg : Gl X "isinstance") (hm : X.mg "isinstance" = none) (hgT : Gl X (Str.ofString T)) (hmT : X.mg (Str.ofString T) = none) (hv : bootBuiltins (Str.ofString T) = some (.type T)) (he : DE X g Wx e fe) (hn : Str.ofString T ≠ "__name__" := by decide)
    (hdb : (Str.ofString T == ("__debug__" : Str)) = false := by decide) (hs : starEach [e, .Name (Str.ofString T) p2] X.env = (false, eval e X.env) :: starEach [.Name (Str.ofString T) p2] X.env := by rfl)
    (hs2 : starEach [.Name (Str.ofString T) p2] X.env = (false, eval (.Name (Str.ofString T) p2) X.env) :: starEach [] X.env := by rfl) (hpl : (backTo pos (starEach [.Name (Str.ofString T) p2] X.env)).any (·.1) = false := by rfl) :
    DE X g Wx (.Call (.Name "isinstance" p) [e, .Name (Str.ofString T) p2] [] pos) (eIsT T fe) := by
  refine PE.imp (pe_callB call_isi hg hm (by rfl) (pa_cons he (pa_cons (pe_bltn (v := .ty T) hgT hmT hv rfl hn hdb) pa_nil hs2) hs) (by decide) (by decide) hs hpl) fun σ H Q ⟨B, env, la, st, R, h⟩ => ?_
  unfold eIsT at h
  refine S.step R h fun w st1 la1 H1 v e1 x1 R1 r1 p1 => ?_
  simp only at p1
  cases ht : tyW st1 w with
  | none => rw [ht] at p1; exact p1.elim
  | some t =>
    rw [ht] at p1
    exact ⟨v, .ty T, .type t, .type T, _, rfl, .ty T, ty_of hK R1.rs r1 ht, kit_ty (kit_tys (tyW_mem ht) hT), p1.here R1.rs .mkB⟩
/-! ### a handled exception -/
/-- what the context bears -/
def HasX (X : Cx) (g : Glo) : Prop := ∀ a c d, g.pn a c d → ∃ oe, (a, oe) ∈ X.pn ∧ L2N.Zn (.ref (g.ca c)) d oe ∧ ∃ vs, oe.data = .fields vs
def rIsX (X : Cx) : List V → Hp → VK → Prop := fun xs H Q => ∃ (a C : Addr) (oe : Obj) (d : Option Addr) (c : V) (cv : Value) (b : Bool), xs = [.ref a, c] ∧ (a, oe) ∈ X.pn ∧ L2N.Zn (.ref C) d oe ∧ (∃ vs, oe.data = .fields vs) ∧ ExcC X.K C ∧
  (∀ dd, d = some dd → ∃ fvs, H dd = some (.xd fvs)) ∧ (∀ u, RelV c u → u = cv) ∧ PySem.W.kitOne X.K (.ref C) cv = some b ∧ Q (.bl b) H
theorem call_isX : CallR X (.builtin "isinstance") (rIsX X) := by
  rintro pins s σ H xs us Q I r ⟨a, C, oe, d, c, cv, b, rfl, hp, hz, ⟨vs, hv⟩, T, hd, hcv, hk, q⟩
  cases r with
  | cons rx rr =>
    cases rr with
    | cons rt rr =>
      cases rr
      cases rx
      obtain rfl := hcv _ rt
      obtain ⟨hget, _⟩ := I.pin (a, oe) (List.mem_append_left _ hp)
      have nc : PySem.W.notCls oe = true := by unfold PySem.W.notCls; rw [hv]
      have J : ∃ od, PySem.W.InstAt s.heap a oe C od := by
        cases d with
        | none => exact ⟨none, hget, hz.1, nc, by rw [hz.2.1]; trivial⟩
        | some dd =>
          obtain ⟨fvs, e⟩ := hd dd rfl
          have o : ObjOk X.prog X.w H s.heap dd (.xd fvs) := I.hok dd _ e
          obtain ⟨mA, hns, _⟩ := o
          obtain ⟨od, ho, _⟩ := lookIn_ns hns
          exact ⟨some od, hget, hz.1, nc, by rw [hz.2.1]; exact ho⟩
      obtain ⟨od, J⟩ := J
      exact PySem.W.kia_one (PySem.W.hb_kit T) I.kIn J hk (fun z => nomatch z) fun tk => ⟨.bl b, H, I.kept (t' := tk) fun _ _ z => z, rfl, q⟩
/-- isinstance(e, C), slot i holds the exception e -/
def eIsX (i : Nat) (test : Nat → Option Bool) : FE := fun env st => match env[i]? with
  | some (.x c _) => (match test c with
    | some b => .ok (.bl b) st
    | none => .bad)
  | _ => .bad
theorem de_isX {i : Nat} {x y : Str} {te : V} {cv : Value} {test : Nat → Option Bool} (hX : HasX X g) (hN : X.N[i]? = some x) (hv : Vis X.env.scope x) (ht : ∀ c b, test c = some b → ExcC X.K (g.ca c) ∧ PySem.W.kitOne X.K (.ref (g.ca c)) cv = some b) (hcv : ∀ u, RelV te u → u = cv) (hy : PE X (.Name y p2) (tC te))
    (hg : Gl X "isinstance") (hm : X.mg "isinstance" = none) (hd : (x == ("__debug__" : Str)) = false := by decide) (hcd : (x == ("__classdict__" : Str)) = false := by decide)
    (hs : starEach [.Name x p', .Name y p2] X.env = (false, eval (.Name x p') X.env) :: starEach [.Name y p2] X.env := by rfl)
    (hs2 : starEach [.Name y p2] X.env = (false, eval (.Name y p2) X.env) :: starEach [] X.env := by rfl) (hpl : (backTo pos (starEach [.Name y p2] X.env)).any (·.1) = false := by rfl) :
    DE X g Wx (.Call (.Name "isinstance" p) [.Name x p', .Name y p2] [] pos) (eIsX i test) := by
  refine PE.imp (pe_callB call_isX hg hm (by rfl) (pa_cons (pe_var hN hv hd hcd) (pa_cons hy pa_nil hs2) hs) (by decide) (by decide) hs hpl) fun σ H Q ⟨B, env, la, st, R, h⟩ => ?_
  unfold eIsX at h
  cases ev : env[i]? with
  | none => rw [ev] at h; exact h.elim
  | some s =>
    rw [ev] at h
    cases s <;> try exact h.elim
    rename_i c fs
    simp only at h
    obtain ⟨a, d, h1, h2, h3⟩ := R.exc i c fs ev
    cases hb : test c with
    | none => rw [hb] at h; exact h.elim
    | some b =>
      rw [hb] at h
      obtain ⟨oe, hp, hz, hf⟩ := hX a c d h2
      obtain ⟨T, hk⟩ := ht c b hb
      refine ⟨.ref a, h1, a, g.ca c, oe, d, te, cv, b, rfl, hp, hz, hf, T, fun dd hdd => ?_, hcv, hk, h.here R.rs .mkB⟩
      rcases h3 with ⟨_, h3⟩ | ⟨_, q, fvs, h4, h5, _⟩
      · rw [h3] at hdd; cases hdd
      · rw [h4] at hdd; cases hdd; exact ⟨fvs, h5⟩
/-- e.f -/
def eXf (i : Nat) (ok : Nat → Bool) (f : String) : FE := fun env st => match env[i]? with
  | some (.x c fs) => if ok c then (match fs.lookup f with
    | some w => .ok w st
    | none => .bad) else .bad
  | _ => .bad
theorem de_xf {a : Addr} {oe : Obj} {cls : Value} {d : Option Addr} {pn : List (Addr × Obj)} {i : Nat} {x : Str} {f : String} {ok : Nat → Bool} (hz : L2N.Zn cls d oe) (hf : ∃ vs, oe.data = .fields vs) (hN : X.N[i]? = some x) (hv : Vis X.env.scope x)
    (hok : ∀ c, ok c = true → XfC X.K (g.ca c) ∧ PySem.W.findIn X.K (.ref (g.ca c)) (Str.ofString f) = some none) (hd : (x == ("__debug__" : Str)) = false := by decide) (hcd : (x == ("__classdict__" : Str)) = false := by decide)
    (hb : attributeBase (.Name x p') (Str.ofString f) X.env (eval (.Name x p') X.env) = eval (.Name x p') X.env := by rfl) : DE (X.suite a ((a, oe) :: pn)) (g.wp (heldP g a cls d)) Wx (.Attribute (.Name x p') (Str.ofString f) pos) (eXf i ok f) := by
  by_cases hC : ∃ c, ok c = true ∧ cls = .ref (g.ca c)
  · obtain ⟨c0, hc0, hc1⟩ := hC
    obtain ⟨T, hno⟩ := hok c0 hc0
    refine PE.imp (pe_xf (C := g.ca c0) (cls := cls) T hno hz.zc hf (pe_var (X := X.suite a ((a, oe) :: pn)) hN hv hd hcd) hb) fun σ H Q ⟨B, env, la, st, R, h⟩ => ?_
    unfold eXf at h
    cases ev : env[i]? with
    | none => rw [ev] at h; exact h.elim
    | some s =>
      rw [ev] at h
      cases s <;> try exact h.elim
      rename_i c fs
      simp only at h
      obtain ⟨a1, d1, h1, ⟨h2, h3, h4⟩, h5⟩ := R.exc i c fs ev
      by_cases hk : ok c = true
      · rw [if_pos hk] at h
        cases l : fs.lookup f with
        | none => rw [l] at h; exact h.elim
        | some w =>
          rw [l] at h
          subst h2 h4
          rcases h5 with ⟨e1, _⟩ | ⟨_, q, fvs, e1, e2, e3⟩
          · rw [e1] at l; cases l
          · obtain ⟨v, l2, rw2⟩ := e3.lookup l
            exact ⟨.ref a1, h1, rfl, hc1, q, fvs, v, e1, e2, l2, h.here R.rs (.of rw2)⟩
      · rw [if_neg hk] at h; exact h.elim
  · refine ⟨fun pins s σ H Q I ⟨B, env, la, st, R, h⟩ => ?_⟩
    unfold eXf at h
    cases ev : env[i]? with
    | none => rw [ev] at h; exact h.elim
    | some s =>
      rw [ev] at h
      cases s <;> try exact h.elim
      rename_i c fs
      simp only at h
      obtain ⟨a1, d1, h1, ⟨h2, h3, h4⟩, h5⟩ := R.exc i c fs ev
      by_cases hk : ok c = true
      · exact absurd ⟨c, hk, h3.symm⟩ hC
      · rw [if_neg hk] at h; exact h.elim
/-! ### items stored -/
def gSetIx : W → W → W → Store → Option Store := fun x y w st => match lstR st x, y with
  | some (n, ws), .int i => (match ixN ws.length i with
    | some j => some (st.set n (.lst (ws.set j w)))
    | none => none)
  | _, _ => none
theorem setIx_of {la : Lay} {st st' : Store} {H : Hp} {x y w : W} {v1 v2 v3 : V} (rs : RS g la st H) (r1 : RWx g la H x v1) (r2 : RWx g la H y v2) (r3 : RW g la H w v3) (h : gSetIx x y w st = some st') :
    ∃ p xs k j, v1 = .ref p ∧ v2 = .int k ∧ H p = some (.lst xs) ∧ ixN xs.length k = some j ∧ ExtE la H la (upd H p (.lst (xs.set j v3))) ∧ RS g la st' (upd H p (.lst (xs.set j v3))) := by
  unfold gSetIx at h
  cases hx : lstR st x with
  | none => rw [hx] at h; cases h
  | some t =>
    obtain ⟨n, ws⟩ := t
    cases y <;> (rw [hx] at h; simp only [reduceCtorEq] at h)
    rename_i i
    cases hj : ixN ws.length i with
    | none => rw [hj] at h; cases h
    | some j =>
      rw [hj] at h
      cases h
      obtain ⟨a, vs, rfl, ha, hH, z, q⟩ := lstR_of rs r1 hx
      obtain ⟨x1, rs1⟩ := wr_lst (vs := vs.set j v3) rs ha (by rw [List.length_set]; exact z) (q.set j r3)
      exact ⟨a, vs, i, j, rfl, r2.int, hH, by rw [q.length]; exact hj, x1, rs1⟩
def gSet (fo fi : FE) : FG := fun w env st => match fo env st with
  | .ok x st1 => (match fi env st1 with
    | .ok y st2 => (match gSetIx x y w st2 with
      | some st3 => .nx env st3
      | none => .bad)
    | _ => .bad)
  | _ => .bad
theorem dg_set {vs : List Nat} {i : Expr} (ho : DE X g Wx o fo) (hi : DE X g Wx i fi)
    (ha : ∀ v, assign (.Subscript o i pos) X.env v = (do
      let ov ← holding [v] (eval o X.env)
      let iv ← holding [v, ov] (eval i X.env)
      standAt pos
      holding [v, ov, iv] (setItem ov iv v)
      release [v, ov, iv] []) := by intro _; rfl) : DG X g vs (.Subscript o i pos) (gSet fo fi) := by
  refine PG.imp (pg_sub ho hi set_list ha) fun v σ H Q ⟨B, env, la, st, w, R, rw_, h⟩ => ?_
  unfold gSet at h
  refine ⟨B, env, la, st, R, ?_⟩
  cases e1 : fo env st with
  | ok x st1 =>
    rw [e1] at h
    simp only at h
    intro la1 H1 v1 x1 rs1 r1
    have R1 := R.extE x1 rs1
    refine ⟨B, env, la1, st1, R1, ?_⟩
    cases e2 : fi env st1 with
    | ok y st2 =>
      rw [e2] at h
      simp only at h
      intro la2 H2 v2 x2 rs2 r2
      cases e3 : gSetIx x y w st2 with
      | none => rw [e3] at h; exact h.elim
      | some st3 =>
        rw [e3] at h
        obtain ⟨p, xs, k, j, q1, q2, q3, q4, x3, rs3⟩ := setIx_of rs2 (r1.extE rs1 x2) r2 (rw_.ext R.rs (x1.trans x2).ext) e3
        exact ⟨p, xs, k, j, q1, q2, q3, q4, h σ la2 _ ((x1.trans x2).trans x3) ((R1.extE x2 rs2).extE x3 rs3) rfl⟩
    | exc c fs s => rw [e2] at h; exact h.elim
    | bad => rw [e2] at h; exact h.elim
  | exc c fs s => rw [e1] at h; exact h.elim
  | bad => rw [e1] at h; exact h.elim
/-- del xs[i] -/
def sDel (fo fi : FE) : FS := fun env st => (fo env st).bindS env fun x st1 => (fi env st1).bindS env fun y st2 => match lstR st2 x, y with
  | some (n, ws), .int i => if -1000000 ≤ i ∧ i ≤ 1000000 then (match ixN ws.length i with
    | some k => .nx env (st2.set n (.lst (ws.eraseIdx k)))
    | none => .bad) else .bad
  | _, _ => .bad
theorem ds_del {i : Expr} (ho : DE X g Wx o fo) (hi : DE X g Wx i fi) : DS X g Wx (.Delete [.Subscript o i p] pos) (sDel fo fi) := by
  refine PS.imp (ps_delL ho hi) fun D σ H ⟨B, env, la, st, R, h⟩ => ?_
  refine SS.step R h fun x st1 la1 H1 v1 x1 R1 r1 p1 => ?_
  refine SS.step R1 p1 fun y st2 la2 H2 v2 x2 R2 r2 p2 => ?_
  cases hx : lstR st2 x with
  | none => rw [hx] at p2; exact p2.elim
  | some t =>
    obtain ⟨n, ws⟩ := t
    cases y <;> (rw [hx] at p2; simp only at p2) <;> try exact p2.elim
    rename_i i
    by_cases c : -1000000 ≤ i ∧ i ≤ 1000000
    · rw [if_pos c] at p2
      cases hj : ixN ws.length i with
      | none => rw [hj] at p2; exact p2.elim
      | some k =>
        rw [hj] at p2
        obtain ⟨a, vs, rfl, ha, hH, z, q⟩ := lstR_of R2.rs (r1.extE R1.rs x2) hx
        obtain ⟨x3, rs3⟩ := wr_lst (vs := vs.eraseIdx k) R2.rs ha (Nat.le_trans (len_erase _ _) z) (q.eraseIdx k)
        exact ⟨a, vs, i, k, rfl, r2.int, hH, by omega, by omega, by rw [q.length]; exact (ixN_seq hj).1, p2 σ la2 _ x3.ext (R2.extE x3 rs3)⟩
    · rw [if_neg c] at p2; exact p2.elim
/-! ### lists of the def's own -/
def ownL (env : Env) (i : Nat) : Option (List W) := match env[i]? with
  | some (.l ws) => some ws
  | _ => none
theorem ownL_of {B : Base} {env : Env} {σ : L2.St} {la : Lay} {st : Store} {H : Hp} {i : Nat} {ws : List W} (R : Rel g B env σ la st H) (h : ownL env i = some ws) :
    env[i]? = some (.l ws) ∧ ∃ p vs, σ[i]? = some (some (.ref p)) ∧ H p = some (.lst vs) ∧ p ∈ la.lv ∧ vs.length ≤ sizeLine ∧ RWs g la H ws vs := by
  unfold ownL at h
  cases e : env[i]? with
  | none => rw [e] at h; cases h
  | some s =>
    rw [e] at h
    cases s <;> cases h
    obtain ⟨p, vs, h1, h2, h3, _, h5, h6⟩ := R.lst i ws e
    exact ⟨rfl, p, vs, h1, h2, h3, h5, h6⟩
/-- xs.append(e) -/
def sAppO (i : Nat) (fa : FE) : FS := fun env st => match ownL env i with
  | some ws => (fa env st).bindS env fun w st1 => if isLr w || decide (1000000 ≤ ws.length) then .bad else .nx (env.set i (.l (ws ++ [w]))) st1
  | none => .bad
theorem ds_appO {i : Nat} {x : Str} (hN : X.N[i]? = some x) (hv : Vis X.env.scope x) (ha : DE X g Wx a fa) (hd : (x == ("__debug__" : Str)) = false := by decide) (hcd : (x == ("__classdict__" : Str)) = false := by decide)
    (hbase : attributeBase (.Name x p') "append" X.env (eval (.Name x p') X.env) = eval (.Name x p') X.env := by rfl)
    (hfew : ((backTo p (starEach [a] X.env)).all (fun x => !x.1) && (backToKw p (keywordEach [] X.env)).all (fun x => x.1.isSome) && decide (([a] : List Expr).length + ([] : List Keyword).length + (if ([] : List Keyword).isEmpty then 0 else 1) < 30)) = true := by rfl)
    (hline : (apos.endLine == p.line) = true := by rfl) (hs : starEach [a] X.env = (false, eval a X.env) :: starEach [] X.env := by rfl) (hpl : (backTo p (starEach [] X.env)).any (·.1) = false := by rfl)
    (hsw : swapsWith (.Call (.Attribute (.Name x p') "append" apos) [a] [] p) none pos.line X.env = pure false := by rfl) :
    DS X g Wx (.Expr (.Call (.Attribute (.Name x p') "append" apos) [a] [] p) pos) (sAppO i fa) := by
  refine PS.imp (ps_expr (pe_bm PySem.F.plainAttrs_list PySem.F.slot_list_append PySem.F.type_list_append mt_append (pe_var hN hv hd hcd) (da_1 ha hs) hbase hfew hline hs hpl) hsw) fun D σ H ⟨B, env, la, st, R, h⟩ => ?_
  unfold sAppO at h
  cases ev : ownL env i with
  | none => rw [ev] at h; exact h.elim
  | some ws =>
    rw [ev] at h
    obtain ⟨e0, q, us, h1, h2, h3, _, _⟩ := ownL_of R ev
    refine ⟨.ref q, h1, .inl ⟨rfl, us, .inl (.inl h2)⟩, ?_⟩
    refine SS.step R h fun w st1 la1 H1 vs x1 R1 r1 p1 => ?_
    obtain ⟨v, rfl, r1⟩ := r1
    by_cases c : (isLr w || decide (1000000 ≤ ws.length)) = true
    · rw [if_pos c] at p1; exact p1.elim
    · rw [if_neg c] at p1
      simp only [Bool.or_eq_true, decide_eq_true_eq, not_or] at c
      obtain ⟨q', vs, g1, g2, g3, _, g5, g6⟩ := R1.lst i ws e0
      rw [h1] at g1; cases g1
      have hz : vs.length < sizeLine := by
        rw [g6.length]
        have := line_ge
        omega
      refine ⟨q, vs, v, rfl, rfl, g2, hz, p1 σ la1 _ (.updL g3) (R1.updL e0 h1 (by rw [List.length_append]; exact hz) (g6.append (.one (r1.rw (by simpa using c.1)))))⟩
/-- xs.extend(e) -/
def sExtO (i : Nat) (fa : FE) : FS := fun env st => match ownL env i with
  | some ws => (fa env st).bindS env fun w st1 => match lstM st1 w with
    | some us => if ws.length + us.length ≤ 1000000 then .nx (env.set i (.l (ws ++ us))) st1 else .bad
    | none => .bad
  | none => .bad
theorem ds_extO {i : Nat} {x : Str} (hN : X.N[i]? = some x) (hv : Vis X.env.scope x) (ha : DE X g Wx a fa) (hd : (x == ("__debug__" : Str)) = false := by decide) (hcd : (x == ("__classdict__" : Str)) = false := by decide)
    (hbase : attributeBase (.Name x p') "extend" X.env (eval (.Name x p') X.env) = eval (.Name x p') X.env := by rfl)
    (hfew : ((backTo p (starEach [a] X.env)).all (fun x => !x.1) && (backToKw p (keywordEach [] X.env)).all (fun x => x.1.isSome) && decide (([a] : List Expr).length + ([] : List Keyword).length + (if ([] : List Keyword).isEmpty then 0 else 1) < 30)) = true := by rfl)
    (hline : (apos.endLine == p.line) = true := by rfl) (hs : starEach [a] X.env = (false, eval a X.env) :: starEach [] X.env := by rfl) (hpl : (backTo p (starEach [] X.env)).any (·.1) = false := by rfl)
    (hsw : swapsWith (.Call (.Attribute (.Name x p') "extend" apos) [a] [] p) none pos.line X.env = pure false := by rfl) :
    DS X g Wx (.Expr (.Call (.Attribute (.Name x p') "extend" apos) [a] [] p) pos) (sExtO i fa) := by
  refine PS.imp (ps_expr (pe_bm PySem.F.plainAttrs_list PySem.F.slot_list_extend PySem.F.type_list_extend mt_extend (pe_var hN hv hd hcd) (da_1 ha hs) hbase hfew hline hs hpl) hsw) fun D σ H ⟨B, env, la, st, R, h⟩ => ?_
  unfold sExtO at h
  cases ev : ownL env i with
  | none => rw [ev] at h; exact h.elim
  | some ws =>
    rw [ev] at h
    obtain ⟨e0, q, us, h1, h2, h3, _, _⟩ := ownL_of R ev
    refine ⟨.ref q, h1, .inl ⟨rfl, us, .inl (.inl h2)⟩, ?_⟩
    refine SS.step R h fun w st1 la1 H1 vs x1 R1 r1 p1 => ?_
    obtain ⟨v, rfl, r1⟩ := r1
    cases hw : lstM st1 w with
    | none => rw [hw] at p1; exact p1.elim
    | some ts =>
      rw [hw] at p1
      simp only at p1
      by_cases c : ws.length + ts.length ≤ 1000000
      · rw [if_pos c] at p1
        obtain ⟨b, vs2, rfl, k1, k2, k3⟩ := lstM_of R1.rs r1 hw
        obtain ⟨q', vs, g1, g2, g3, _, g5, g6⟩ := R1.lst i ws e0
        rw [h1] at g1; cases g1
        have hz : vs.length + vs2.length ≤ sizeLine := by rw [g6.length, k3.length]; exact Nat.le_trans c line_ge
        exact ⟨q, b, vs, vs2, rfl, rfl, g2, k1, hz, p1 σ la1 _ (.updL g3) (R1.updL e0 h1 (by rw [List.length_append]; exact hz) (g6.append k3))⟩
      · rw [if_neg c] at p1; exact p1.elim
/-- xs[i] = e -/
def sSetO (i : Nat) (fi fe : FE) : FS := fun env st => (fe env st).bindS env fun w st1 => if isLr w then .bad else match ownL env i with
  | some ws => (fi env st1).bindS env fun y st2 => match y with
    | .int k => (match ixN ws.length k with
      | some j => .nx (env.set i (.l (ws.set j w))) st2
      | none => .bad)
    | _ => .bad
  | none => .bad
theorem ds_setO {i : Nat} {x : Str} {ix : Expr} (hN : X.N[i]? = some x) (hv : Vis X.env.scope x) (hi : DE X g Wx ix fi) (he : DE X g Wx e fe) (hd : (x == ("__debug__" : Str)) = false := by decide) (hcd : (x == ("__classdict__" : Str)) = false := by decide)
    (ha : ∀ v, assign (.Subscript (.Name x p') ix p) X.env v = (do
      let ov ← holding [v] (eval (.Name x p') X.env)
      let iv ← holding [v, ov] (eval ix X.env)
      standAt p
      holding [v, ov, iv] (setItem ov iv v)
      release [v, ov, iv] []) := by intro _; rfl)
    (hs : swapsWithSole [.Subscript (.Name x p') ix p] e pos.line X.env = pure false := by rfl) (hw : swappedStores [.Subscript (.Name x p') ix p] e X.env = pure none := by rfl)
    (h1 : (assignEach [.Subscript (.Name x p') ix p] X.env).map (·.2) = [assign (.Subscript (.Name x p') ix p) X.env] := by rfl) :
    DS X g Wx (.Assign [.Subscript (.Name x p') ix p] e pos) (sSetO i fi fe) := by
  refine PS.imp (ps_asg he (pg_sub (pe_var hN hv hd hcd) hi set_list ha) hs hw h1) fun D σ H ⟨B, env, la, st, R, h⟩ => ?_
  unfold sSetO at h
  refine SS.step R h fun w st1 la1 H1 v x1 R1 r1 p1 => ?_
  by_cases hl : isLr w = true
  · rw [if_pos hl] at p1; exact p1.elim
  · rw [if_neg hl] at p1
    have rw1 := r1.rw (by simpa using hl)
    cases ev : ownL env i with
    | none => rw [ev] at p1; exact p1.elim
    | some ws =>
      rw [ev] at p1
      obtain ⟨e0, q, us, h1, h2, h3, _, _⟩ := ownL_of R1 ev
      refine ⟨.ref q, h1, ?_⟩
      refine SS.step R1 p1 fun y st2 la2 H2 v2 x2 R2 r2 p2 => ?_
      cases y <;> try exact p2.elim
      rename_i k
      simp only at p2
      cases hj : ixN ws.length k with
      | none => rw [hj] at p2; exact p2.elim
      | some j =>
        rw [hj] at p2
        obtain ⟨q', vs, g1, g2, g3, _, g5, g6⟩ := R2.lst i ws e0
        rw [h1] at g1; cases g1
        exact ⟨q, vs, k, j, rfl, r2.int, g2, by rw [g6.length]; exact hj, p2 σ la2 _ (.updL g3) (R2.updL e0 h1 (by rw [List.length_set]; exact g5) (g6.set j (rw1.ext R1.rs x2.ext)))⟩
end
end Hb

end

section
set_option Elab.async false
set_option linter.all false
set_option maxRecDepth 100000
set_option maxHeartbeats 4000000
/-! Hb14: defs that are called within a suite, with the handled exception as first argument. -/
namespace Hb
open PySem PySem.Spec PyProof.Rows L2 L2H

/-- what a def promises there, of the handled exception's object -/
structure FnHP (P : Program) (w : World) (K : PySem.W.Frag) (mg : Str → Option Value) (base : Heap) (k : Nat) (f : Addr) (fd : FuncData) (ps : List Str) (sp : Addr × Obj → Sp) : Prop where
  len : ∀ p vs H Q E, sp p vs H Q E → vs.length = ps.length
  run : ∀ (A : Around) (outer : List PySem.Env) (s : Shared) (H : Hp) (args : Args) (us : List Value) (vs : List V) (Q : VK) (E : XK) (p : Addr × Obj), RoomH k A → Hot1 A p → PinOk outer H s p → Env0 P w K mg base A outer s H → BindsTo s fd args (ps.zip us) → Vals vs us → sp p vs H Q E →
    codeAny (model P w) A (.call (.ref f) args) (CR (L2N.CX P w) outer P w H s Q E) s
abbrev cxHp (P : Program) (w : World) (K : PySem.W.Frag) (mg : Str → Option Value) (base : Heap) (N : List Str) (qual : Str) (scope : Scope) (f : Addr) (cd : Value) (A : Around) (outer : List PySem.Env) (s : Shared) (H : Hp) (E : XK) (p : Addr × Obj) : Cx := cxH (L2N.CX P w) P w K mg base N qual scope f cd A outer s H E p
theorem fnHP_of {P : Program} {w : World} {K : PySem.W.Frag} {mg : Str → Option Value} {base : Heap} {x qual : Str} {params : Arguments} {body : List Stmt} {scope : Scope} {dvs : List V} {kws : List (Str × V)} {f : Addr} {fd : FuncData} {N ps : List Str} {k : Nat} {sp : Addr × Obj → Sp}
    (F : FunD K x qual params body scope dvs kws f fd) (S : FnScope N ps scope) (len : ∀ p vs H Q E, sp p vs H Q E → vs.length = ps.length)
    (hbody : ∀ (cdv : Value) (A : Around) (outer : List PySem.Env) (s : Shared) (H : Hp) (vs : List V) (Q : VK) (E : XK) (p : Addr × Obj), Hot1 A p → RoomH k (A.deeper (envOfC qual scope s.heap.objs.size f cdv)) → sp p vs H Q E →
      ∃ t, PSs (cxHp P w K mg base N qual scope f cdv A outer s H E p) body t ∧ t { nx := fun _ H' => Q .non H', rt := Q } (L2.start N vs) H) : FnHP P w K mg base (k + 1) f fd ps sp := by
  obtain ⟨oc, od, dV, kV, doc, pm, an, cdv, ct, osl, rfl, lk, hcd, _, _⟩ := F.ex
  refine ⟨len, fun A outer s H args us vs Q E p hr hot pin e0 hb r hsp => ?_⟩
  have hl := len _ _ _ _ _ hsp
  have inK : K.In s.heap := e0.mod.kin.keeps fun b o e => (e0.bs b o e).1
  have lim : s.heap.NoLimit := e0.mod.nolimit.keeps fun b o e => (e0.bs b o e).1
  have kinds : ∀ y ∈ ps.zip us, scope.names.lookup y.1 = some .local ∨ (scope.names.lookup y.1 = some .cell ∧ ((cellsFrom (s.heap.objs.size + 1) scope.names []).lookup y.1).isSome = true) := fun ⟨n, v⟩ hy => by
    rcases S.par n (List.of_mem_zip hy).1 with q | q
    · exact .inl q
    · exact .inr ⟨q, PySem.W.cellsFrom_some _ _ _ (.inl q)⟩
  refine codeAny_call_function hr.depth (inK _ _ lk) rfl S.co S.gen rfl (PySem.W.codeRec_of inK hcd) (hb _ _ _ _ (wpAny_newFunctionEnv_cells S.kind kinds fun env he s1 ic => ?_))
  subst he
  refine ⟨lim.keeps ic.toInCall.keep, codeAny_func ?_⟩
  obtain ⟨t, ht, hq⟩ := hbody cdv A outer s H vs Q E p hot (hr.deeper _) hsp
  have I : Inv (cxHp P w K mg base N qual scope f cdv A outer s H E p) [] (L2.start N vs) H s1 := inv_startH S pin e0 hl r ic
  refine wpAny_mono (ht.run [] s1 (L2.start N vs) H _ I hq) (fun fl s' o => ?_) fun e s' o => o
  cases fl with
  | ret u => obtain ⟨v, σ', H', J, rv, q⟩ := o; exact ⟨v, H', J.os, J.bare, J.base, J.hok, rv, q⟩
  | next => obtain ⟨σ', H', J, q⟩ := o; exact ⟨V.non, H', J.os, J.bare, J.base, J.hok, rfl, q⟩
  | brk => obtain ⟨_, _, _, q⟩ := o; exact q.elim
  | cont => obtain ⟨_, _, _, q⟩ := o; exact q.elim
theorem run_fnHP {X : Cx} {k : Nat} {f : Addr} {fd : FuncData} {ps : List Str} {sp : Addr × Obj → Sp} {p : Addr × Obj} {pins : List (Addr × Obj)} {σ : L2.St} {H : Hp} {s : Shared} {Q : VK} {us : List Value} {vs : List V} (F : FnHP X.prog X.w X.K X.mg X.base k f fd ps sp) (hr : RoomH k X.A) (hot : Hot1 X.A p) (hp : p ∈ X.pn)
    (hb : Binds X.K fd ps []) (hx : ∀ pins σ H s e s', Inv X pins σ H s → L2N.CX X.prog X.w X.stack H s (fun _ _ _ => False) e s' → X.xe e s') (I : Inv X pins σ H s) (r : Vals vs us) (h : sp p vs H Q (fun _ _ _ => False)) : wpAny (model X.prog X.w) X.A (call (.ref f) us) (EP X pins σ Q) X.xe s := by
  have b := hb s us I.kIn (by rw [List.append_nil, ← r.length]; exact F.len _ _ _ _ _ h)
  rw [List.append_nil] at b
  have P1 := I.pin p (List.mem_append_left _ hp)
  have pin : PinOk X.stack H s p := ⟨P1.1, P1.2.1, fun hm => (List.mem_cons.mp (I.stkSub p.1 hm)).elim P1.2.2.1 P1.2.2.2.1, P1.2.2.2.2⟩
  refine wpAny_call (codeAny_mono (F.run X.A X.stack s H ⟨us, []⟩ us vs Q _ p hr hot pin I.env0 b r h) fun r s' o => ?_)
  cases r with
  | error e => exact hx pins σ H s e s' I o
  | ok fl =>
    cases fl with
    | ret u => exact I.after o
    | next => exact o.elim
    | brk => exact o.elim
    | cont => exact o.elim
/-! ### .. as functions -/
abbrev FFX := Nat → List (String × W) → FF
def spH (g : Glo) (n : Nat) (m : FFX) : Addr × Obj → Sp := fun p vs H Q E => vs.length = n ∧ ∃ c d fs la ws st us, vs = .ref p.1 :: us ∧ L2N.Zn (.ref (g.ca c)) d p.2 ∧ (∃ fv, p.2.data = .fields fv) ∧ RX g la H fs d ∧ RS g la st H ∧ RWs g la H ws us ∧ PostC g la H Q E (m c fs ws st)
def mkFX (nN np : Nat) (f : FS) : FFX := fun c fs ws st => if ws.length + 1 = np then (match f (.x c fs :: (ws.map .v ++ List.replicate (nN - np) .no)) st with
  | .nx _ st' => .ok .non st'
  | .rt w st' => .ok w st'
  | _ => .bad) else .bad
structure FnX (P : Program) (w : World) (K : PySem.W.Frag) (mg : Str → Option Value) (base : Heap) (g : Glo) (k : Nat) (m : FFX) (f : Addr) : Prop where
  ex : ∃ (fd : FuncData) (ps : List Str), FnHP P w K mg base k f fd ps (spH g ps.length m) ∧ Binds K fd ps [] ∧ ∀ c fs ws st, ws.length + 1 ≠ ps.length → m c fs ws st = .bad
/-- what the context bears: the handled exception -/
def HotG (X : Cx) (g : Glo) : Prop := ∀ a c d, g.pn a c d → ∃ oe, (a, oe) ∈ X.pn ∧ Hot1 X.A (a, oe) ∧ L2N.Zn (.ref (g.ca c)) d oe ∧ ∃ vs, oe.data = .fields vs
theorem HotG.has {X : Cx} {g : Glo} (h : HotG X g) : HasX X g := fun a c d q => by
  obtain ⟨oe, h1, _, h2, h3⟩ := h a c d q
  exact ⟨oe, h1, h2, h3⟩
theorem hot_suite {X : Cx} {g : Glo} {a : Addr} {oe : Obj} {cls : Value} {d : Option Addr} {pn : List (Addr × Obj)} (hz : L2N.Zn cls d oe) (hf : ∃ vs, oe.data = .fields vs) : HotG (X.suite a ((a, oe) :: pn)) (g.wp (heldP g a cls d)) := by
  rintro a' c' d' ⟨rfl, h2, rfl⟩
  obtain ⟨vs, hv⟩ := hf
  exact ⟨oe, List.mem_cons_self, ⟨rfl, vs, hv, hz.2.2 vs hv⟩, by show L2N.Zn (.ref (g.ca c')) d' oe; rw [h2]; exact hz, vs, hv⟩
section
variable {g : Glo}
theorem Rel.startX {la : Lay} {st : Store} {H : Hp} {ws : List W} {vs : List V} {N : List Str} {a : Addr} {c : Nat} {d : Option Addr} {fs : List (String × W)} {p : Addr → Nat → Option Addr → Prop} (rs : RS g la st H) (r : RWs g la H ws vs) (hp : p a c d) (rx : RX g la H fs d) :
    Rel (g.wp p) ⟨la, H⟩ (.x c fs :: (ws.map .v ++ List.replicate (N.length - (ws.length + 1)) .no)) (L2.start N (.ref a :: vs)) la st H where
  rs := RS_wp.mpr rs
  len := by unfold L2.start; simp [r.length]
  val := fun i w h => by
    cases i with
    | zero => simp at h
    | succ i =>
      rw [List.getElem?_cons_succ] at h
      have hi : i < ws.length := by
        by_cases q : i < ws.length
        · exact q
        · rw [List.getElem?_append_right (by simp; omega)] at h
          obtain ⟨_, q2⟩ := List.getElem?_eq_some_iff.mp h
          simp at q2
      rw [List.getElem?_append_left (by simpa using hi), List.getElem?_map] at h
      cases e : ws[i]? with
      | none => rw [e] at h; cases h
      | some x =>
        rw [e] at h
        cases h
        obtain ⟨v, hv, rv⟩ := r.get e
        refine ⟨v, ?_, RW_wp.mpr rv⟩
        unfold L2.start
        rw [List.getElem?_append_left (by rw [List.length_map, List.length_cons, r.length]; omega), List.getElem?_map, List.getElem?_cons_succ, hv]; rfl
  lst := fun i us h => by
    cases i with
    | zero => simp at h
    | succ i =>
      rw [List.getElem?_cons_succ] at h
      by_cases q : i < ws.length
      · rw [List.getElem?_append_left (by simpa using q), List.getElem?_map] at h
        cases e : ws[i]? with
        | none => rw [e] at h; cases h
        | some x => rw [e] at h; cases h
      · rw [List.getElem?_append_right (by simp; omega)] at h
        obtain ⟨_, q2⟩ := List.getElem?_eq_some_iff.mp h
        simp at q2
  dis := fun i j us us' p _ h => by
    cases i with
    | zero => simp at h
    | succ i =>
      rw [List.getElem?_cons_succ] at h
      by_cases q : i < ws.length
      · rw [List.getElem?_append_left (by simpa using q), List.getElem?_map] at h
        cases e : ws[i]? with
        | none => rw [e] at h; cases h
        | some x => rw [e] at h; cases h
      · rw [List.getElem?_append_right (by simp; omega)] at h
        obtain ⟨_, q2⟩ := List.getElem?_eq_some_iff.mp h
        simp at q2
  exc := fun i c' fs' h => by
    cases i with
    | zero =>
      simp at h
      obtain ⟨rfl, rfl⟩ := h
      exact ⟨a, d, by unfold L2.start; simp, hp, RX_wp.mpr rx⟩
    | succ i =>
      rw [List.getElem?_cons_succ] at h
      by_cases q : i < ws.length
      · rw [List.getElem?_append_left (by simpa using q), List.getElem?_map] at h
        cases e : ws[i]? with
        | none => rw [e] at h; cases h
        | some x => rw [e] at h; cases h
      · rw [List.getElem?_append_right (by simp; omega)] at h
        obtain ⟨_, q2⟩ := List.getElem?_eq_some_iff.mp h
        simp at q2
  pre := List.prefix_refl _
  new := fun a h n m => by exact h.elim (fun z => absurd z n) fun z => absurd z m
  keep := fun p o h _ => h
  lvs := fun p h => h
  own := fun p h e => by
    obtain ⟨⟨vs, q⟩, _⟩ := rs.lvo p h
    have e' : H p = none := e
    rw [q] at e'; cases e'
theorem fnX_ok {P : Program} {w : World} {K : PySem.W.Frag} {mg : Str → Option Value} {base : Heap} {x qual : Str} {params : Arguments} {body : List Stmt} {scope : Scope} {dvs : List V} {kws : List (Str × V)} {f : Addr} {fd : FuncData} {N ps : List Str} {k : Nat} {fb : FS}
    (F : FunD K x qual params body scope dvs kws f fd) (S : FnScope N ps scope) (hb : Binds K fd ps [])
    (h : ∀ (cdv : Value) (A : Around) (outer : List PySem.Env) (s : Shared) (H : Hp) (E : XK) (p : Addr × Obj) (cls : Value) (d : Option Addr), RoomH k (A.deeper (envOfC qual scope s.heap.objs.size f cdv)) →
      L2N.Takes (cxHp P w K mg base N qual scope f cdv A outer s H E p) (WD E) → HotG (cxHp P w K mg base N qual scope f cdv A outer s H E p) (g.wp (heldP g p.1 cls d)) →
      DSs (cxHp P w K mg base N qual scope f cdv A outer s H E p) (g.wp (heldP g p.1 cls d)) WxF body fb) : FnX P w K mg base g (k + 1) (mkFX N.length ps.length fb) f := by
  refine ⟨fd, ps, fnHP_of F S (fun p vs H Q E h => h.1) fun cdv A outer s H vs Q E p hot hr hsp => ?_, hb, fun c fs ws st hn => by unfold mkFX; rw [if_neg hn]⟩
  obtain ⟨hl, c, d, fs, la, ws, st, us, rfl, hz, ⟨fv, hfv⟩, rx, rs, r, pc⟩ := hsp
  have hw : ws.length + 1 = ps.length := by rw [← r.length]; simpa using hl
  unfold mkFX at pc
  rw [if_pos hw, ← hw] at pc
  have hg : HotG (cxHp P w K mg base N qual scope f cdv A outer s H E p) (g.wp (heldP g p.1 (.ref (g.ca c)) d)) := by
    rintro a' c' d' ⟨rfl, h2, rfl⟩
    exact ⟨p.2, List.mem_cons_self, ⟨hot.1, hot.2⟩, by show L2N.Zn (.ref (g.ca c')) d' p.2; rw [h2]; exact hz, fv, hfv⟩
  refine ⟨_, h cdv A outer s H E p (.ref (g.ca c)) d hr (L2N.takes_of rfl rfl rfl rfl) hg, ⟨la, H⟩, _, la, st, Rel.startX (N := N) rs r ⟨rfl, rfl, rfl⟩ rx, ?_⟩
  cases e : fb (.x c fs :: (ws.map .v ++ List.replicate (N.length - (ws.length + 1)) .no)) st with
  | nx env' st' =>
    rw [e] at pc
    exact fun σ' la' H' x R' => pc ⟨la'.io, la.lv⟩ H' _ R'.gone (RS_wp.mp (R'.rs.back R'.lvs)) (by simp only [RW])
  | rt w' st' =>
    rw [e] at pc
    exact fun la' H' v x rs2 rw2 => pc la' H' v x (RS_wp.mp rs2) (RW_wp.mp rw2)
  | exc c fs env' st' => rw [e] at pc; exact pc.elim
  | bk a s => rw [e] at pc; exact pc.elim
  | ct a s => rw [e] at pc; exact pc.elim
  | bad => rw [e] at pc; exact pc.elim
end
section
variable {X : Cx} {g : Glo} {p0 : Addr → Nat → Option Addr → Prop} {Wx : WX} {k : Nat} {m : FFX} {f : Addr} {es : List Expr} {fr : Env → Store → Out (List W)} {pos p p' : Pos}
def eCallX (i : Nat) (m : FFX) (fr : Env → Store → Out (List W)) : FE := fun env st => match env[i]? with
  | some (.x c fs) => (fr env st).bind fun ws st1 => match m c fs ws st1 with
    | .ok w st2 => .ok w st2
    | _ => .bad
  | _ => .bad
theorem de_callX {i : Nat} {x y : Str} (F : FnX X.prog X.w X.K X.mg X.base g k m f) (hm : X.mg x = some (.ref f)) (hk : PySem.W.keepIn X.K (.ref f) = true) (hr : RoomH k X.A) (hX : HotG X (g.wp p0)) (tk : ∀ pins σ H s e s', Inv X pins σ H s → L2N.CX X.prog X.w X.stack H s (fun _ _ _ => False) e s' → X.xe e s') (hg : Gl X x)
    (hN : X.N[i]? = some y) (hv : Vis X.env.scope y) (ha : DA X (g.wp p0) Wx es fr) (hd : (y == ("__debug__" : Str)) = false := by decide) (hcd : (y == ("__classdict__" : Str)) = false := by decide) (hdb : (x == ("__debug__" : Str)) = false := by decide)
    (he : starEach (.Name y p' :: es) X.env = (false, eval (.Name y p') X.env) :: starEach es X.env := by rfl) (hpl : (backTo pos (starEach es X.env)).any (·.1) = false := by rfl) :
    DE X (g.wp p0) Wx (.Call (.Name x p) (.Name y p' :: es) [] pos) (eCallX i m fr) := by
  refine ⟨fun pins s σ H Q I ⟨B, env, la, st, R, h⟩ => ?_⟩
  obtain ⟨fd, ps, F1, hb, ar⟩ := F.ex
  unfold eCallX at h
  cases ev : env[i]? with
  | none => rw [ev] at h; exact h.elim
  | some sl =>
    rw [ev] at h
    cases sl <;> try exact h.elim
    rename_i c fs
    simp only at h
    obtain ⟨a, d, h1, h2, h3⟩ := R.exc i c fs ev
    obtain ⟨oe, hp, hot, hz, hf⟩ := hX a c d h2
    refine wpAny_Call_Name_kw (ld_glob I hg hm ?_ hdb)
    refine PySem.W.callWith_K (h₀ := X.base) I.ok.mod.kin hk (thn ((pa_cons (pe_var hN hv hd hcd) ha he).run pos pins s σ H (fun vs H1 => ∃ la1 st1 ws us, vs = .ref a :: us ∧ RX g la1 H1 fs d ∧ RS g la1 st1 H1 ∧ RWs g la1 H1 ws us ∧ Post (g.wp p0) Wx la1 H1 σ (RWx (g.wp p0)) Q (match m c fs ws st1 with
      | .ok w st2 => .ok w st2
      | _ => .bad)) I ?_) fun us s1 ⟨vs, H1, I1, r, la1, st1, ws, us', ev', rx, rs1, r1, p1⟩ => ⟨I1.kIn, ?_⟩) he hpl
    · refine ⟨.ref a, h1, ?_⟩
      refine S.step R h fun ws st1 la1 H1 vs e1 x1 R1 r1 p1 => ⟨la1, st1, ws, vs, rfl, ?_, RS_wp.mp R1.rs, RWs_wp.mp r1, p1⟩
      exact RX_wp.mp (h3.ext R.rs x1.ext)
    · subst ev'
      have hl : ws.length + 1 = ps.length := by
        by_cases z : ws.length + 1 = ps.length
        · exact z
        · rw [ar _ _ _ _ z] at p1; exact p1.elim
      refine run_fnHP (p := (a, oe)) F1 hr hot hp hb tk I1 r ⟨by simp [r1.length, hl], c, d, fs, la1, ws, st1, us', rfl, hz, hf, rx, rs1, r1, ?_⟩
      cases em : m c fs ws st1 with
      | ok w st2 =>
        rw [em] at p1
        exact fun la' H' v x rs2 rw2 => p1 la' H' v x (RS_wp.mpr rs2) (.of (RW_wp.mpr rw2))
      | exc c fs s => rw [em] at p1; exact p1.elim
      | bad => rw [em] at p1; exact p1
end
end Hb

end

section
set_option Elab.async false
set_option linter.all false
set_option maxRecDepth 100000
set_option maxHeartbeats 4000000
/-! Hb15: walks over an object whose class has __iter__: return iter(self.f). -/
namespace Hb
open PySem PySem.Spec PyProof.Rows L2

/-- a def whose promise may speak of the state at its call -/
structure FnS (P : Program) (w : World) (K : PySem.W.Frag) (mg : Str → Option Value) (base : Heap) (k : Nat) (f : Addr) (fd : FuncData) (ps : List Str) (sp : Shared → Sp) : Prop where
  len : ∀ s vs H Q E, sp s vs H Q E → vs.length = ps.length
  run : ∀ (A : Around) (outer : List PySem.Env) (s : Shared) (H : Hp) (args : Args) (us : List Value) (vs : List V) (Q : VK) (E : XK), Room k A → Env0 P w K mg base A outer s H → BindsTo s fd args (ps.zip us) → Vals vs us → sp s vs H Q E →
    codeAny (model P w) A (.call (.ref f) args) (CR (L2N.CX P w) outer P w H s Q E) s
theorem fnS_of {P : Program} {w : World} {K : PySem.W.Frag} {mg : Str → Option Value} {base : Heap} {x qual : Str} {params : Arguments} {body : List Stmt} {scope : Scope} {dvs : List V} {kws : List (Str × V)} {f : Addr} {fd : FuncData} {N ps : List Str} {k : Nat} {sp : Shared → Sp}
    (F : FunD K x qual params body scope dvs kws f fd) (S : FnScope N ps scope) (len : ∀ s vs H Q E, sp s vs H Q E → vs.length = ps.length)
    (hbody : ∀ (cdv : Value) (A : Around) (outer : List PySem.Env) (s : Shared) (H : Hp) (vs : List V) (Q : VK) (E : XK), Room k (A.deeper (envOfC qual scope s.heap.objs.size f cdv)) → sp s vs H Q E →
      ∃ t, PSs (cxOf (L2N.CX P w) P w K mg base N qual scope f cdv A outer s H E) body t ∧ t { nx := fun _ H' => Q .non H', rt := Q } (L2.start N vs) H) : FnS P w K mg base (k + 1) f fd ps sp := by
  obtain ⟨oc, od, dV, kV, doc, pm, an, cdv, ct, osl, rfl, lk, hcd, _, _⟩ := F.ex
  refine ⟨len, fun A outer s H args us vs Q E hr e0 hb r hsp => ?_⟩
  have hl := len _ _ _ _ _ hsp
  have inK : K.In s.heap := e0.mod.kin.keeps fun b o e => (e0.bs b o e).1
  have lim : s.heap.NoLimit := e0.mod.nolimit.keeps fun b o e => (e0.bs b o e).1
  have kinds : ∀ y ∈ ps.zip us, scope.names.lookup y.1 = some .local ∨ (scope.names.lookup y.1 = some .cell ∧ ((cellsFrom (s.heap.objs.size + 1) scope.names []).lookup y.1).isSome = true) := fun ⟨n, v⟩ hy => by
    rcases S.par n (List.of_mem_zip hy).1 with q | q
    · exact .inl q
    · exact .inr ⟨q, PySem.W.cellsFrom_some _ _ _ (.inl q)⟩
  refine codeAny_call_function (by have := hr.dp; omega) (inK _ _ lk) rfl S.co S.gen rfl (PySem.W.codeRec_of inK hcd) (hb _ _ _ _ (wpAny_newFunctionEnv_cells S.kind kinds fun env he s1 ic => ?_))
  subst he
  refine ⟨lim.keeps ic.toInCall.keep, codeAny_func ?_⟩
  obtain ⟨t, ht, hq⟩ := hbody cdv A outer s H vs Q E (hr.deeper _) hsp
  have I : Inv (cxOf (L2N.CX P w) P w K mg base N qual scope f cdv A outer s H E) [] (L2.start N vs) H s1 := inv_start S hr.hd e0 hl r ic
  refine wpAny_mono (ht.run [] s1 (L2.start N vs) H _ I hq) (fun fl s' o => ?_) fun e s' o => o
  cases fl with
  | ret u => obtain ⟨v, σ', H', J, rv, q⟩ := o; exact ⟨v, H', J.os, J.bare, J.base, J.hok, rv, q⟩
  | next => obtain ⟨σ', H', J, q⟩ := o; exact ⟨V.non, H', J.os, J.bare, J.base, J.hok, rfl, q⟩
  | brk => obtain ⟨_, _, _, q⟩ := o; exact q.elim
  | cont => obtain ⟨_, _, _, q⟩ := o; exact q.elim
/-- what such an __iter__ promises -/
def spIter (K : PySem.W.Frag) (fl : Str) : Shared → Sp := fun s vs H Q _ => ∃ a C dx fs l xs, vs = [.ref a] ∧ H a = some (.ins C dx fs) ∧ Cls K C ∧ NoAttr K C fl ∧ fs.lookup fl = some (.ref l) ∧ SqL K H l xs ∧ ∀ it, H it = none → s.heap.objs.size ≤ it → Q (.ref it) (upd H it (ItO l it 0))
theorem iter_ok {P : Program} {w : World} {K : PySem.W.Frag} {mg : Str → Option Value} {base : Heap} {qual fl : Str} {params : Arguments} {scope : Scope} {f : Addr} {fd : FuncData} {p1 p2 p3 p4 p5 : Pos}
    (F : FunD K "__iter__" qual params [.Return (some (.Call (.Name "iter" p1) [.Attribute (.Name "self" p2) fl p3] [] p4)) p5] scope [] [] f fd) (S : FnScope ["self"] ["self"] scope) (hs : Vis scope "self") (hm : mg "iter" = none) (hgl : (envOfC qual scope 0 f (.none)).kindOf "iter" = some .globalImplicit) :
    FnS P w K mg base 1 f fd ["self"] (spIter K fl) := by
  refine fnS_of F S ?_ fun cdv A outer s H vs Q E hr h => ⟨_, pss_one (ps_ret (pe_callB ItX.call_iterN hgl hm (by rfl) (pa_cons (pe_fld (pe_var (i := 0) rfl hs) (by rfl)) pa_nil))), ?_⟩
  · rintro s vs H Q E ⟨a, C, dx, fs, l, xs, rfl, _⟩; rfl
  · obtain ⟨a, C, dx, fs, l, xs, rfl, hH, hC, hN, hl, hs, q⟩ := h
    exact ⟨.ref a, rfl, a, C, dx, fs, .ref l, rfl, hH, hC, hN, hl, l, xs, rfl, hs, fun it h1 h2 => q it h1 h2⟩
section
variable {X : Cx} {g : Glo} {Wx : WX} {e tg : Expr} {fe : FE} {pos : Pos}
structure IterOk (X : Cx) (g : Glo) (itf : Nat → Bool) (fl : String) : Prop where
  ok : ∀ c, itf c = true → Cls X.K (g.ca c) ∧ NoAttr X.K (g.ca c) (Str.ofString fl) ∧ ∃ fi fd, PySem.W.findIn X.K (.ref (g.ca c)) "__iter__" = some (some (.ref fi)) ∧ PySem.W.isFn X.K (.ref fi) = true ∧ Binds X.K fd ["self"] [] ∧ FnS X.prog X.w X.K X.mg X.base 1 fi fd ["self"] (spIter X.K (Str.ofString fl))
/-- the list that an object walks -/
def iOwn (itf : Nat → Bool) (fl : String) (fe : FE) : Env → Store → Out Src := fun env st => (fe env st).bind fun w st1 => match insAt st1 w with
  | some (_, c, fs) => if itf c then (match fs.lookup fl with
    | some (.ref m) => (match st1[m]? with
      | some (.lst ws) => .ok (ws, some m) st1
      | _ => .bad)
    | _ => .bad) else .bad
  | none => .bad
theorem walk_from0 {K : PySem.W.Frag} {p : Addr} {la0 : Lay} {H0 : Hp} {ws : List W} {ck : Option Nat} (h : WalkJ g (Itl K p) ws ck la0 H0) : WalkJ g (ItX.ItlF K p 0) ws ck la0 H0 := by
  intro la H st x rs hck i
  have := h la H st x rs hck i
  simpa only [ItX.ItlF, Nat.zero_add] using this
theorem di_own {itf : Nat → Bool} {fl : String} (hK : g.K = X.K) (hi : IterOk X g itf fl) (hr : Room 1 X.A) (tk : L2N.Takes X Wx) (he : DE X g Wx e fe) : DI X g Wx tg e (iOwn itf fl fe) := by
  refine ⟨fun pins s σ H R I ⟨B, env, la, st, Rl, h⟩ => ?_⟩
  refine thn (he.run pins s σ H (fun v H1 => ∃ w st1 la1, RS g la1 st1 H1 ∧ RWx g la1 H1 w v ∧ PostI g Wx la1 H1 σ R (match insAt st1 w with
    | some (_, c, fs) => if itf c then (match fs.lookup fl with
      | some (.ref m) => (match st1[m]? with
        | some (.lst ws) => .ok (ws, some m) st1
        | _ => .bad)
      | _ => .bad) else .bad
    | none => .bad)) I (SI.step Rl h fun w st1 la1 H1 v x1 R1 r1 p1 => ⟨w, st1, la1, R1.rs, r1, p1⟩)) fun u s1 ⟨v, H1, I1, rv, w, st1, la1, rs1, r1, p1⟩ => ?_
  cases q : insAt st1 w with
  | none => rw [q] at p1; exact p1.elim
  | some t =>
    obtain ⟨n, c, fs⟩ := t
    rw [q] at p1
    simp only at p1
    obtain ⟨rfl, hst1, a, dx, fvs, rfl, hai, hH, hF⟩ := ins_of rs1 r1 q
    obtain rfl : u = Value.ref a := rv
    by_cases hc : itf c = true
    · rw [if_pos hc] at p1
      obtain ⟨hC, hN, fi, fd, h1, h2, h3, F⟩ := hi.ok c hc
      cases ql : fs.lookup fl with
      | none => rw [ql] at p1; exact p1.elim
      | some w2 =>
        rw [ql] at p1
        cases w2 <;> try exact p1.elim
        rename_i m
        simp only at p1
        cases qm : st1[m]? with
        | none => rw [qm] at p1; exact p1.elim
        | some cell =>
          rw [qm] at p1
          cases cell <;> try exact p1.elim
          rename_i ws
          simp only at p1
          obtain ⟨v2, l2, r2⟩ := hF.lookup ql
          simp only [RW] at r2
          obtain ⟨l, hlm, rfl⟩ := r2
          obtain ⟨vs, hl, z, rws⟩ := rs1.at_ m _ l qm hlm
          obtain ⟨mA, J, _⟩ := ins_get I1.hok hH
          obtain ⟨od, J, _⟩ := J.look
          obtain ⟨mm, hFr⟩ := I1.fr
          refine PySem.W.owit_iter hFr I1.ok.mod.kin J h1 h2 ?_
          have bb := h3 s1 [.ref a] I1.kIn rfl
          refine wpAny_call (codeAny_mono (F.run X.A X.stack s1 H1 ⟨[.ref a], []⟩ [.ref a] [.ref a] (fun v' H' => ∃ it, v' = .ref it ∧ H1 it = none ∧ s1.heap.objs.size ≤ it ∧ H' = upd H1 it (ItO l it 0)) (fun _ _ _ => False) hr I1.env0 (by simpa using bb) (.cons rfl .nil)
            ⟨a, _, dx, fvs, l, vs, rfl, hH, hC, hN, l2, .inl (.inl hl), fun it hn hsz => ⟨it, rfl, hn, hsz, rfl⟩⟩) fun r s' o => ?_)
          cases r with
          | error er => exact noneTaken tk pins σ H1 s1 er s' I1 o
          | ok flw =>
            cases flw <;> try exact o.elim
            obtain ⟨v', H2, I2, rv2, it, rfl, hn, hsz, rfl⟩ := I1.after o
            rename_i u2
            obtain rfl : u2 = Value.ref it := rv2
            have eo := itO_get I2 upd_same
            have hnew : upd H1 it (ItO l it 0) it = some (ItO l it 0) := upd_same
            have hT : s'.TypeIs (.ref it) "list_iterator" := ⟨_, eo, rfl⟩
            refine wpAny_specialOf hT PySem.slot_listiter_next.lookup ?_
            show PIE X pins σ tg R (.ref it) s'
            have st0 : s'.heap.IsListIter it l (0 + 0) := ⟨_, eo, rfl, rfl⟩
            have dr : ItX.dropH (upd H1 it (ItO l it 0)) it = H1 := ItX.dropH_upd hn
            have Id : Inv X pins σ H1 s' := by
              have := ItX.inv_drop I2 (a := it) (by unfold ItO; exact upd_same)
              rw [dr] at this; exact this
            refine ⟨it, [it], _, _, H1, rfl, Id, ItX.turn_listF l it 0, st0, fun b hb => ?_, ?_⟩
            · obtain rfl : b = it := by simpa using hb
              have := ItX.inv_fp I2 hnew (Nat.le_trans I1.sz hsz)
              rw [dr] at this; exact this
            · refine p1 la1 H1 _ .refl rs1 (walk_from0 (walk_lst (st0 := st1) fun la2 H2 st2 x2 rs2 hck => ?_))
              have hq := hck m rfl
              simp only [seqW] at hq
              cases e2 : st2[m]? with
              | none => rw [e2] at hq; cases hq
              | some c2 =>
                have q2 := rs2.at_ m c2 l e2 (x2.get hlm)
                rw [e2] at hq
                cases c2 with
                | lst us => cases hq; obtain ⟨vs2, e3, _, r3⟩ := q2; exact ⟨vs2, .inl (.inl e3), r3⟩
                | ins c fs => cases hq
                | dic k => cases hq
    · rw [if_neg hc] at p1; exact p1.elim
end
end Hb

end

section
set_option Elab.async false
set_option linter.all false
set_option maxRecDepth 100000
set_option maxHeartbeats 4000000
/-! Hb16: the head's facts, by paths. -/
namespace Hb
open PySem PySem.Spec PyProof.Rows L2

/-- where a def stands: a global's name; a class's method; a property's getter -/
inductive Pa where
  | g (x : Str) | m (x m : Str) | p (x f : Str)
def Pa.ad (K : PySem.W.Frag) : Pa → Addr
  | .g x => He.ga K x
  | .m x n => He.ma K (He.ga K x) n
  | .p x f => match PySem.W.recIn K (He.ma K (He.ga K x) f) "property" with
    | some (.ref a :: _) => a
    | _ => 0
structure DefE where
  at_ : Pa
  name : Str
  qual : Str
  params : Arguments
  body : List Stmt
  scope : Scope
  dfl : List He.Dv := []
  kwd : List (Str × He.Dv) := []
def fnE (K : PySem.W.Frag) (a : Addr) : He.FnW := match K.lookup a with
  | some ⟨_, _, .func fd, _⟩ => some (fd.name, fd.qualname, fd.params, fd.body, fd.scope, fd.globals, fd.closure, fd.builtins)
  | _ => none
def DefE.val (d : DefE) : He.FnW := some (d.name, d.qual, d.params, .stmts d.body, d.scope, mainGlobals, [], builtinsNs)
def DefE.dvs (K : PySem.W.Frag) (d : DefE) : List V := d.dfl.map (He.Dv.v K)
def DefE.kws (K : PySem.W.Frag) (d : DefE) : List (Str × V) := d.kwd.map fun q => (q.1, q.2.v K)
def DefE.ok (K : PySem.W.Frag) (d : DefE) : Bool := PySem.W.keepIn K (.ref (d.at_.ad K)) && (match K.lookup (d.at_.ad K) with
  | some ⟨_, _, .func fd, _⟩ => PySem.W.codeIn K fd.code d.qual && (He.dflB K fd.defaults (d.dvs K) && He.kwdB K fd.kwdefaults (d.kws K))
  | _ => false)
theorem DefE.funD {K : PySem.W.Frag} {d : DefE} (e : fnE K (d.at_.ad K) = d.val) (c : d.ok K = true) : ∃ fd, FunD K d.name d.qual d.params d.body d.scope (d.dvs K) (d.kws K) (d.at_.ad K) fd := by
  obtain ⟨at1, nm, ql, pa, bo, sc, df, kw⟩ := d
  obtain ⟨kp, c2⟩ := He.ba c
  unfold fnE at e
  dsimp only at e c2 kp ⊢
  cases q : K.lookup (at1.ad K) with
  | none => rw [q] at c2; cases c2
  | some o =>
    obtain ⟨oc, od, dt, osl⟩ := o
    rw [q] at c2 e
    cases dt <;> try cases c2
    rename_i fd
    obtain ⟨f1, f2, f3, f4, f5, f6, f7, f8, f9, f10, f11, f12, f13, f14, f15⟩ := fd
    simp only [DefE.val, Option.some.injEq, Prod.mk.injEq] at e
    obtain ⟨h1, h2, h3, h4, h5, h6, h7, h8⟩ := e
    subst h1 h2 h3 h4 h5 h6 h7 h8
    obtain ⟨k1, k2⟩ := He.ba c2
    obtain ⟨k3, k4⟩ := He.ba k2
    exact ⟨_, ⟨oc, od, f8, f9, f10, f11, f12, f13, f14, osl, rfl, q, k1, He.dflB_ok k3, He.kwdB_ok k4⟩, kp⟩
/-! ### facts -/
inductive Fc where
  | a (f : He.Fa)
  | oex (x : Str)
  | xf (x : Str)
  | isx (x : Str)
  | kitc (x y : Str) (b : Bool)
  | kitt (x : Str) (T : String) (b : Bool)
  | prop (x f : Str)
  | fn (x m : Str)
def oexB (K : PySem.W.Frag) (C : Addr) : Bool := match K.lookup C with
  | some ⟨.type "type", _, .cls cd, sl⟩ => (match cd.mro, sl.toList with
    | .ref C' :: bm, [_, _, _, _, some (.builtin n), _] => C' == C && n == "ValueError.__new__" && cd.hasDict && !cd.hasDel && PySem.HandSPX.refsVE bm
    | _, _ => false)
  | _ => false
theorem oexB_ok {K : PySem.W.Frag} {C : Addr} (h : oexB K C = true) : ∃ nm q N bs bm sn sub ab col dd k0 k1 k2 k3 k5, K.lookup C = some (excClassObj nm q C N bs bm true sn sub ab col dd k0 k1 k2 k3 k5 "ValueError.__new__") ∧ PySem.HandSPX.refsVE bm = true := by
  unfold oexB at h
  split at h
  · rename_i dd cd sl ho
    split at h
    · rename_i C' bm x0 x1 x2 x3 n x5 hm hs
      simp only [Bool.and_eq_true, beq_iff_eq, Bool.not_eq_true'] at h
      obtain ⟨⟨⟨⟨rfl, rfl⟩, h3⟩, h4⟩, h5⟩ := h
      obtain ⟨nm, bs, mro, N, q, hd, sn, sub, ab, col, del⟩ := cd
      dsimp only at hm h3 h4
      subst hm h3 h4
      have hs' : sl = #[x0, x1, x2, x3, some (.builtin "ValueError.__new__"), x5] := by
        have := congrArg List.toArray hs
        simpa using this
      subst hs'
      exact ⟨nm, q, N, bs, bm, sn, sub, ab, col, dd, x0, x1, x2, x3, x5, ho, h5⟩
    · cases h
  · cases h
def eqO (a b : Option (Option Value)) : Bool := decide (a = b)
def Fc.ok (K : PySem.W.Frag) : Fc → Bool
  | .a f => f.ok K
  | .oex x => oexB K (He.ga K x) && (eqO (PySem.W.findIn K (.ref (He.ga K x)) "__setattr__") (some (some (.builtin "object.__setattr__"))) && (decide (PySem.W.subIn K (.ref (He.ga K x)) (.type "BaseException") = some true) && (decide (PySem.W.typeIn K (.ref (He.ga K x)) = some (.type "type")) && PySem.W.keepIn K (.ref (He.ga K x)))))
  | .xf x => xfB K (He.ga K x)
  | .isx x => eqO (PySem.W.findIn K (.ref (He.ga K x)) "__getattribute__") (some (some (.builtin "BaseException.__getattribute__"))) && (eqO (PySem.W.findIn K (.ref (He.ga K x)) "__getattr__") (some none) && (decide (PySem.W.subIn K (.ref (He.ga K x)) (.type "BaseException") = some true) && (PySem.W.hasDictIn K (He.ga K x) &&
      (eqO (PySem.W.findIn K (.ref (He.ga K x)) "__class__") (some (some (.builtin "object.__class__"))) && (eqO (PySem.W.specialIn K (.builtin "object.__class__") "__get__") (some (some (.builtin "getset_descriptor.__get__"))) && (decide (PySem.W.takesIn K (.builtin "object.__class__") = some true) && decide (PySem.W.mroIn K (He.ga K x) (.type "object") = some true)))))))
  | .kitc x y b => decide (PySem.W.kitOne K (.ref (He.ga K x)) (.ref (He.ga K y)) = some b)
  | .kitt x T b => decide (PySem.W.kitOne K (.ref (He.ga K x)) (.type T) = some b)
  | .prop x f => eqO (PySem.W.findIn K (.ref (He.ga K x)) f) (some (some (.ref (He.ma K (He.ga K x) f)))) && (eqO (PySem.W.specialIn K (.ref (He.ma K (He.ga K x) f)) "__get__") (some (some (.builtin "property.__get__"))) && (decide (PySem.W.takesIn K (.ref (He.ma K (He.ga K x) f)) = some true) && (match PySem.W.recIn K (He.ma K (He.ga K x) f) "property" with
    | some (.ref _ :: _) => true
    | _ => false)))
  | .fn x m => decide (PySem.W.typeIn K (.ref (He.ma K (He.ga K x) m)) = some (.type "function")) && eqO (PySem.W.findIn K (.ref (He.ga K x)) m) (some (some (.ref (He.ma K (He.ga K x) m))))
section
variable {K : PySem.W.Frag}
theorem oex_ok {x : Str} (c : (Fc.oex x).ok K = true) : OexC K (He.ga K x) := by
  obtain ⟨c1, c⟩ := He.ba c
  obtain ⟨c2, c⟩ := He.ba c
  obtain ⟨c3, c⟩ := He.ba c
  obtain ⟨c4, c5⟩ := He.ba c
  exact ⟨oexB_ok c1, of_decide_eq_true c2, of_decide_eq_true c3, of_decide_eq_true c4, c5⟩
theorem xf_ok {x : Str} (c : (Fc.xf x).ok K = true) : XfC K (He.ga K x) := xfB_ok c
theorem isx_ok {x : Str} (c : (Fc.isx x).ok K = true) : ExcC K (He.ga K x) := by
  obtain ⟨c1, c⟩ := He.ba c
  obtain ⟨c2, c⟩ := He.ba c
  obtain ⟨c3, c⟩ := He.ba c
  obtain ⟨c4, c⟩ := He.ba c
  obtain ⟨c5, c⟩ := He.ba c
  obtain ⟨c6, c⟩ := He.ba c
  obtain ⟨c7, c8⟩ := He.ba c
  exact ⟨of_decide_eq_true c1, of_decide_eq_true c2, of_decide_eq_true c3, c4, of_decide_eq_true c5, of_decide_eq_true c6, of_decide_eq_true c7, of_decide_eq_true c8⟩
theorem kitc_ok {x y : Str} {b : Bool} (c : (Fc.kitc x y b).ok K = true) : PySem.W.kitOne K (.ref (He.ga K x)) (.ref (He.ga K y)) = some b := of_decide_eq_true c
theorem kitt_ok {x : Str} {T : String} {b : Bool} (c : (Fc.kitt x T b).ok K = true) : PySem.W.kitOne K (.ref (He.ga K x)) (.type T) = some b := of_decide_eq_true c
theorem prop_ok {x f : Str} (c : (Fc.prop x f).ok K = true) : PropOf K (He.ga K x) f (He.ma K (He.ga K x) f) (Pa.ad K (.p x f)) := by
  obtain ⟨c1, c⟩ := He.ba c
  obtain ⟨c2, c⟩ := He.ba c
  obtain ⟨c3, c4⟩ := He.ba c
  refine ⟨of_decide_eq_true c1, of_decide_eq_true c2, of_decide_eq_true c3, ?_⟩
  split at c4
  · rename_i a r e
    have z : Pa.ad K (.p x f) = a := by
      show (match PySem.W.recIn K (He.ma K (He.ga K x) f) "property" with
        | some (.ref a :: _) => a
        | _ => 0) = a
      rw [e]
    exact ⟨r, by rw [z]; exact e⟩
  · cases c4
theorem fnc_ok {x m : Str} (c : (Fc.fn x m).ok K = true) : PySem.W.typeIn K (.ref (He.ma K (He.ga K x) m)) = some (.type "function") ∧ PySem.W.findIn K (.ref (He.ga K x)) m = some (some (.ref (He.ma K (He.ga K x) m))) := by
  obtain ⟨c1, c2⟩ := He.ba c
  exact ⟨of_decide_eq_true c1, of_decide_eq_true c2⟩
end
/-! ### the Hook -/
abbrev AlF : Type := Bool × List He.FnW
def obsF (fa : List Fc) (fn : List DefE) (K : PySem.W.Frag) : AlF := ((fa.all fun f => f.ok K) && fn.all fun d => d.ok K, fn.map fun d => fnE K (d.at_.ad K))
def valF (fn : List DefE) : AlF := (true, fn.map DefE.val)
def SaysF (fa : List Fc) (fn : List DefE) (K : PySem.W.Frag) : Prop := obsF fa fn K = valF fn
def obsFG (n : Nat) (fa : List Fc) (fn : List DefE) (g : Addr → Option Obj) : AlF := obsF fa fn (He.frG g (He.asD g n))
def hookF (n : Nat) (fa : List Fc) (fn : List DefE) : PySem.W.Hook where
  α := AlF
  obs := fun s => obsFG n fa fn s.heap.get?
  val := fun _ => valF fn
  says := fun _ h => ∃ K : PySem.W.Frag, K.In h ∧ SaysF fa fn K
  of := fun _ _ e => ⟨_, He.frG_in, e⟩
  keeps := fun _ _ _ ⟨K, hK, c⟩ k => ⟨K, PySem.W.Frag.In.keeps hK k, c⟩
theorem obsFG_eq {n : Nat} {fa : List Fc} {fn : List DefE} (s : PySem.W.SharedT) : obsFG n fa fn (HandSHeadRun.getT s) = (hookF n fa fn).obs s.abs := by
  have e : HandSHeadRun.getT s = s.abs.heap.get? := funext (HandSHeadRun.getT_eq s)
  rw [e] <;> rfl
section
variable {fa : List Fc} {fn : List DefE} {K : PySem.W.Frag}
theorem SaysF.fact (c : SaysF fa fn K) (i : Nat) {f : Fc} (h : fa[i]? = some f := by rfl) : f.ok K = true := by
  have z := congrArg Prod.fst c
  exact List.all_eq_true.mp (He.ba z).1 f (List.mem_of_getElem? h)
theorem SaysF.def_ (c : SaysF fa fn K) (i : Nat) {d : DefE} (h : fn[i]? = some d := by rfl) : ∃ fd, FunD K d.name d.qual d.params d.body d.scope (d.dvs K) (d.kws K) (d.at_.ad K) fd := by
  have z := congrArg Prod.fst c
  have y : (fn.map fun d => fnE K (d.at_.ad K)) = fn.map DefE.val := congrArg Prod.snd c
  have y2 : (fn.map fun d => fnE K (d.at_.ad K))[i]? = (fn.map DefE.val)[i]? := by rw [y]
  rw [List.getElem?_map, List.getElem?_map, h] at y2
  exact DefE.funD (Option.some.inj y2) (List.all_eq_true.mp (He.ba z).2 d (List.mem_of_getElem? h))
end
/-- what the walks lean on -/
structure Yh (fa : List Fc) (fn : List DefE) (K : PySem.W.Frag) (mg : Str → Option Value) (h : Heap) : Prop where
  X : K.In h
  G : h.Ns mainGlobals mg
  c : SaysF fa fn K
section
variable {fa : List Fc} {fn : List DefE} {K : PySem.W.Frag} {mg : Str → Option Value} {h : Heap}
theorem Yh.glo (y : Yh fa fn K mg h) (i : Nat) {x : Str} (e : fa[i]? = some (.a (.glo x)) := by rfl) : mg x = some (.ref (He.ga K x)) := He.glo_ok y.X y.G (y.c.fact i e)
theorem Yh.free (y : Yh fa fn K mg h) (i : Nat) {x : Str} (e : fa[i]? = some (.a (.free x)) := by rfl) : mg x = none := He.free_ok y.X y.G (y.c.fact i e)
theorem Yh.int (y : Yh fa fn K mg h) (i : Nat) {x : Str} {k : Int} (e : fa[i]? = some (.a (.int x k)) := by rfl) : ∃ u, mg x = some u ∧ RelV (.int k) u := by
  obtain ⟨t, ht⟩ := He.int_ok y.X y.G (y.c.fact i e)
  exact ⟨_, ht, t, rfl⟩
theorem Yh.str (y : Yh fa fn K mg h) (i : Nat) {x z : Str} (e : fa[i]? = some (.a (.str x z)) := by rfl) : ∃ u, mg x = some u ∧ RelV (.str z) u := by
  obtain ⟨t, ht⟩ := He.str_ok y.X y.G (y.c.fact i e)
  exact ⟨_, ht, t, rfl⟩
end
section
variable {fa : List Fc} {fn : List DefE} {K : PySem.W.Frag} {mg : Str → Option Value} {h : Heap}
theorem Yh.cls (y : Yh fa fn K mg h) (i : Nat) {x : Str} (e : fa[i]? = some (.a (.cls x)) := by rfl) : Cls K (He.ga K x) := He.cls_ok (y.c.fact i e)
theorem Yh.noat (y : Yh fa fn K mg h) (i : Nat) {x f : Str} (e : fa[i]? = some (.a (.noat x f)) := by rfl) : NoAttr K (He.ga K x) f := He.noat_ok (y.c.fact i e)
theorem Yh.meth (y : Yh fa fn K mg h) (i : Nat) {x f : Str} (e : fa[i]? = some (.a (.meth x f)) := by rfl) : Meth K (He.ga K x) f (He.ma K (He.ga K x) f) := He.meth_ok (y.c.fact i e)
theorem Yh.mkr (y : Yh fa fn K mg h) (i : Nat) {x : Str} (e : fa[i]? = some (.a (.mkr x)) := by rfl) : Mk K (He.ga K x) (He.ma K (He.ga K x) "__init__") := He.mkr_ok (y.c.fact i e)
theorem Yh.exm (y : Yh fa fn K mg h) (i : Nat) {x z : Str} {b : Bool} (e : fa[i]? = some (.a (.exm x z b)) := by rfl) : PySem.W.exmOne K (.ref (He.ga K x)) (.ref (He.ga K z)) = some b := He.exm_ok (y.c.fact i e)
end
/-- an own exception class, ready to be raised -/
theorem exc_cls {P : Program} {w : World} {K : PySem.W.Frag} {mg : Str → Option Value} {base : Heap} {x : Str} {sp : Sp} {ps : List Str} {fd : FuncData} (gl : mg x = some (.ref (He.ga K x))) (c1 : (Fc.oex x).ok K = true) (c2 : (Fc.fn x "__init__").ok K = true)
    (F : FnOk P w K mg base (L2N.CX P w) 1 (He.ma K (He.ga K x) "__init__") fd ps sp) (hb : Binds K fd ps []) : ExcCls P w K mg base (He.ga K x) x sp :=
  ⟨gl, oex_ok c1, _, fd, ps, (fnc_ok c2).2, (fnc_ok c2).1, F, hb⟩
theorem FnP.mono {P : Program} {w : World} {K : PySem.W.Frag} {mg : Str → Option Value} {base : Heap} {g : Glo} {j k : Nat} {m : FF} {dws : List W} {f : Addr} (F : FnP P w K mg base g j m dws f) (h : j ≤ k) : FnP P w K mg base g k m dws f := by
  obtain ⟨fd, ps, dvs, ds, F1, r⟩ := F.ex
  exact ⟨fd, ps, dvs, ds, ⟨F1.len, fun A outer s H args us vs Q E hr e0 b v sp => F1.run A outer s H args us vs Q E (hr.mono h) e0 b v sp⟩, r⟩
/-- nothing is promised -/
theorem fnP_bad {P : Program} {w : World} {K : PySem.W.Frag} {mg : Str → Option Value} {base : Heap} {g : Glo} {k : Nat} {f : Addr} {fd : FuncData} {ps : List Str} (hb : Binds K fd ps []) : FnP P w K mg base g k (fun _ _ => .bad) [] f :=
  ⟨fd, ps, [], [], ⟨fun vs H Q E h => h.1, fun A outer s H args us vs Q E _ _ _ _ h => by obtain ⟨_, _, _, _, _, _, z⟩ := h; exact z.elim⟩, hb, .nil, fun _ _ => .nil, fun _ _ _ => rfl⟩
/-! ### short words for the printed walks -/
section
variable {X : Cx} {g : Glo} {Wx : WX} {pos : Pos} {k : Nat}
theorem dv (i : Nat) {x : Str} (hN : X.N[i]? = some x := by rfl) (hv : Vis X.env.scope x := by first | exact .inl rfl | exact .inr (.inl rfl) | exact .inr (.inr rfl)) (hd : (x == ("__debug__" : Str)) = false := by decide) (hcd : (x == ("__classdict__" : Str)) = false := by decide) : DE X g Wx (.Name x pos) (eVar i) := de_var hN hv hd hcd
theorem gn (i : Nat) {vs : List Nat} {x : Str} (hN : X.N.Nodup) (hi : X.N[i]? = some x := by rfl) (hx : Loc X.env.scope x := by first | exact .inl rfl | exact .inr rfl) (hv : i ∈ vs := by decide) (hf : X.fn x = true ∨ X.env.scope.names.lookup x = some .local := by first | exact .inl rfl | exact .inr rfl) : DG X g vs (.Name x pos) (gN i) := dg_name hN hi hx hv hf
theorem hu_of (r : Room k X.A) : X.A.units + 65 < cLine := by have := r.un; omega
theorem hu64 (r : Room k X.A) : X.A.units + 64 < cLine := by have := r.un; omega
theorem huH (r : L2H.RoomH k X.A) : X.A.units + 65 < cLine := by have := r.un; omega
theorem huH64 (r : L2H.RoomH k X.A) : X.A.units + 64 < cLine := by have := r.un; omega
theorem roomHm {A : Around} (r : Room k A) (h : Option Value) : L2H.RoomH k (A.mark h) := ⟨r.dp, r.un⟩
theorem tkF : L2N.Takes X WxF := fun u s' ⟨_, _, _, _, _, _, _, _, _, _, _, _, _, _, _, _, w⟩ => w.elim
theorem rwI {la : Lay} {H : Hp} {i : Int} : RW g la H (.int i) (.int i) := by simp only [RW]
theorem rwS {la : Lay} {H : Hp} {x : String} : RW g la H (.str (cs x)) (.str (Str.ofString x)) := by simp only [RW, ofString_cs]
theorem CX_none {P : Program} {w : World} {H : Hp} {s s' : Shared} {e : Value} (c : L2N.CX P w [] H s (fun _ _ _ => False) e s') : False := by
  obtain ⟨_, _, _, _, _, _, _, _, _, _, _, _, z⟩ := c
  exact z
end
/-- the law's own def: what walk_ofE wants -/
theorem law_sp {g : Glo} {m : FF} {H : Hp} {a : Addr} {ns : List Int} (ho : Only H) (hs : SqL g.K H a (ns.map V.int)) (hl : ns.length ≤ sizeLine) (h : ∃ st, m [.sc (ns.map W.int)] [] = .ok (.bl true) st) : spOf g 1 m [.ref a] H (fun v _ => v = .bl true) fun _ _ _ => False := by
  obtain ⟨st, h⟩ := h
  refine ⟨rfl, ⟨[], []⟩, [.sc (ns.map W.int)], [], ⟨rfl, List.nodup_nil, fun n c a h1 => by simp at h1, fun p hp => by simp at hp⟩, .one ?_, ?_⟩
  · simp only [RW]
    refine ⟨a, ns.map V.int, rfl, ?_, by simpa using hl, RWs.of_ints⟩
    rcases hs with (hs | ⟨o, hs⟩) | hs
    · rcases ho a with z | ⟨o, xs, z⟩
      · rw [z] at hs; cases hs
      · rw [z] at hs; cases hs
    · exact .inl ⟨o, hs⟩
    · exact .inr hs
  · rw [h]
    intro la' H' v x rs r
    simpa only [RW] using r
/-- nothing leaves the law's def -/
theorem law_cx0 {P : Program} {w : World} {K : PySem.W.Frag} {mg : Str → Option Value} {base : Heap} {k : Nat} {f : Addr} {fd : FuncData} {ps : List Str} {sp : Sp} (F : FnOk P w K mg base (L2N.CX P w) k f fd ps sp) :
    FnOk P w K mg base L2.CX0 k f fd ps (fun vs H Q _ => sp vs H Q fun _ _ _ => False) := ⟨fun vs H Q E h => F.len vs H Q _ h, fun A outer s H args us vs Q E hr e0 b v h => by
  refine codeAny_mono (F.run A outer s H args us vs Q _ hr e0 b v h) fun r s' o => ?_
  cases r with
  | error e =>
    obtain ⟨_, _, _, _, _, _, _, _, _, _, _, _, z⟩ := o
    exact z.elim
  | ok fl => cases fl <;> exact o⟩
/-- what walk_ofE asks -/
theorem law_F {P : Program} {w : World} {K : PySem.W.Frag} {mg : Str → Option Value} {h : Heap} {g : Glo} {k : Nat} {f : Addr} {fd : FuncData} {x : Str} {m : FF} (KX : K.In h) (hg : g.K = K) (hb : ∀ (s : Shared) (v : Value), BindsTo s fd ⟨[v], []⟩ [(x, v)])
    (hF : ∀ base : Heap, FnOk P w K mg base (L2N.CX P w) k f fd [x] (spOf g 1 m)) (L : ∀ ns : List Int, ns.length ≤ 63 → ∃ st, m [.sc (ns.map W.int)] [] = .ok (.bl true) st) :
    ∃ (K : PySem.W.Frag) (fd : FuncData) (sp : Sp), K.In h ∧ (∀ (s : Shared) (u : Value), BindsTo s fd ⟨[u], []⟩ [(x, u)]) ∧
      (∀ (H : Hp) (a : Addr) (ns : List Int), ns.length ≤ 63 → Only H → SqL K H a (ns.map V.int) → sp [.ref a] H (fun v _ => v = .bl true) fun _ _ _ => False) ∧
      ∀ base : Heap, K.In base → base.Ns mainGlobals mg → FnOk P w K mg base L2.CX0 k f fd [x] sp :=
  ⟨K, fd, fun vs H Q _ => spOf g 1 m vs H Q fun _ _ _ => False, KX, hb, fun H a ns hl ho hs => law_sp (g := g) ho (by rw [hg]; exact hs) (Nat.le_trans hl (by rw [sizeLine_eq]; omega)) (L ns hl), fun base _ _ => law_cx0 (hF base)⟩
end Hb

end

section
set_option Elab.async false
set_option linter.all false
set_option maxRecDepth 100000
set_option maxHeartbeats 4000000
/-! Hp0: the plain laws' logic: what an outcome is to satisfy. -/
namespace Hb
open PySem PySem.Spec PyProof.Rows L2

abbrev EX := Nat → List (String × W) → Store → Prop
/-- a word whose type hangs on what is to hold: it keeps simp out of it -/
inductive Du {α : Type} (Q : α → Store → Prop) (E : EX) : Type
  | mk
def wE {α : Type} (o : Out α) (Q : α → Store → Prop) (E : EX) (_ : Du Q E := .mk) : Prop := match o with
  | .ok a s => Q a s
  | .exc c fs s => E c fs s
  | .bad => False
theorem wE_congr {α : Type} {o o' : Out α} {Q : α → Store → Prop} {E : EX} (h : o = o') : wE o Q E = wE o' Q E := by rw [h]
structure Po where
  nx : Env → Store → Prop
  rt : W → Store → Prop
  bk : Env → Store → Prop
  ct : Env → Store → Prop
  ex : Nat → List (String × W) → Env → Store → Prop
inductive Dw (D : Po) : Type
  | mk
def wS (o : SO) (D : Po) (_ : Dw D := .mk) : Prop := match o with
  | .nx e s => D.nx e s
  | .rt w s => D.rt w s
  | .bk e s => D.bk e s
  | .ct e s => D.ct e s
  | .exc c fs e s => D.ex c fs e s
  | .bad => False
theorem wS_congr {o o' : SO} {D : Po} (h : o = o') : wS o D = wS o' D := by rw [h]
section
variable {α β : Type} {Q Q' : α → Store → Prop} {E E' : EX} {D : Po} {env : Env} {st : Store}
theorem wE_ok {a : α} : wE (.ok a st) Q E = Q a st := id rfl
theorem wE_exc {c : Nat} {fs : List (String × W)} : wE (.exc c fs st : Out α) Q E = E c fs st := id rfl
theorem wE_bad : wE (.bad : Out α) Q E = False := id rfl
theorem wE_bind {o : Out β} {k : β → Store → Out α} : wE (o.bind k) Q E = wE o (fun a s => wE (k a s) Q E) E := by cases o <;> rfl
theorem wE_ite {c : Prop} [Decidable c] {a b : Out α} : wE (if c then a else b) Q E = ((c → wE a Q E) ∧ (¬ c → wE b Q E)) := by
  by_cases h : c
  · simp [h]
  · simp [h]
theorem wE_eq {o : Out α} (h : ∀ a s, Q a s = Q' a s) : wE o Q E = wE o Q' E := by
  cases o with
  | ok a s => exact h a s
  | exc c fs s => rfl
  | bad => rfl
theorem wE_eq2 {o : Out α} (h : ∀ a s, Q a s = Q' a s) (he : ∀ c fs s, E c fs s = E' c fs s) : wE o Q E = wE o Q' E' := by
  cases o with
  | ok a s => exact h a s
  | exc c fs s => exact he c fs s
  | bad => rfl
theorem wE.mono {o : Out α} (h : wE o Q E) (hq : ∀ a s, Q a s → Q' a s) (he : ∀ c fs s, E c fs s → E' c fs s) : wE o Q' E' := by
  cases o
  · exact hq _ _ h
  · exact he _ _ _ h
  · exact h
theorem wE.eq {o : Out α} (h : wE o Q fun _ _ _ => False) : ∃ a s, o = .ok a s ∧ Q a s := by
  cases o
  · exact ⟨_, _, rfl, h⟩
  · exact h.elim
  · exact h.elim
theorem wS_nx {e : Env} : wS (.nx e st) D = D.nx e st := id rfl
theorem wS_rt {w : W} : wS (.rt w st) D = D.rt w st := id rfl
theorem wS_bk {e : Env} : wS (.bk e st) D = D.bk e st := id rfl
theorem wS_ct {e : Env} : wS (.ct e st) D = D.ct e st := id rfl
theorem wS_exc {c : Nat} {fs : List (String × W)} {e : Env} : wS (.exc c fs e st) D = D.ex c fs e st := id rfl
theorem wS_bad : wS .bad D = False := id rfl
theorem wS_bindS {o : Out α} {k : α → Store → SO} : wS (o.bindS env k) D = wE o (fun a s => wS (k a s) D) (fun c fs s => D.ex c fs env s) := by cases o <;> rfl
theorem wS_ite {c : Prop} [Decidable c] {a b : SO} : wS (if c then a else b) D = ((c → wS a D) ∧ (¬ c → wS b D)) := by
  by_cases h : c
  · simp [h]
  · simp [h]
theorem wS_bSeq {f g : FS} : wS (bSeq f g env st) D = wS (f env st) { D with nx := fun e s => wS (g e s) D } := by
  unfold bSeq
  cases f env st <;> rfl
theorem wS.mono {o : SO} {D D' : Po} (h : wS o D) (h1 : ∀ e s, D.nx e s → D'.nx e s) (h2 : ∀ w s, D.rt w s → D'.rt w s) (h3 : ∀ e s, D.bk e s → D'.bk e s) (h4 : ∀ e s, D.ct e s → D'.ct e s) (h5 : ∀ c fs e s, D.ex c fs e s → D'.ex c fs e s) : wS o D' := by
  cases o
  · exact h1 _ _ h
  · exact h2 _ _ h
  · exact h3 _ _ h
  · exact h4 _ _ h
  · exact h5 _ _ _ _ h
  · exact h
/-- a def's end -/
abbrev fnD (Q : W → Store → Prop) (E : EX) : Po := { nx := fun _ s => Q .non s, rt := Q, bk := fun _ _ => False, ct := fun _ _ => False, ex := fun c fs _ s => E c fs s }
theorem wE_mkFF {nN np : Nat} {f : FS} {ws : List W} {Q : W → Store → Prop} : wE (mkFF nN np f ws st) Q E = (ws.length = np ∧ wS (f (ws.map .v ++ List.replicate (nN - np) .no) st) (fnD Q E)) := by
  unfold mkFF
  by_cases h : ws.length = np
  · rw [if_pos h]
    cases f (ws.map .v ++ List.replicate (nN - np) .no) st <;> simp [h, wE, wS, fnD]
  · rw [if_neg h]; simp [h, wE]
theorem wE_mkFX {nN np : Nat} {f : FS} {c : Nat} {fs : List (String × W)} {ws : List W} {Q : W → Store → Prop} : wE (mkFX nN np f c fs ws st) Q (fun _ _ _ => False) = (ws.length + 1 = np ∧ wS (f (.x c fs :: (ws.map .v ++ List.replicate (nN - np) .no)) st) (fnD Q fun _ _ _ => False)) := by
  unfold mkFX
  by_cases h : ws.length + 1 = np
  · rw [if_pos h]
    cases f (.x c fs :: (ws.map .v ++ List.replicate (nN - np) .no)) st <;> simp [h, wE, wS, fnD]
  · rw [if_neg h]; simp [h, wE]
/-! what small steps give -/
def oBl (w : W) (st : Store) : Out Bool := match w with
  | .bl b => .ok b st
  | _ => .bad
theorem o_bl {b : Bool} : oBl (.bl b) st = .ok b st := id rfl
def oSl (o : Option Sl) (st : Store) : Out W := match o with
  | some (.v w) => .ok w st
  | some (.l ws) => .ok (.lr ws) st
  | _ => .bad
theorem o_slv {w : W} : oSl (some (.v w)) st = .ok w st := id rfl
theorem o_sll {ws : List W} : oSl (some (.l ws)) st = .ok (.lr ws) st := id rfl
def oOp {α : Type} (o : Option α) (st : Store) : Out α := match o with
  | some a => .ok a st
  | none => .bad
theorem o_op {α : Type} {a : α} : oOp (some a) st = .ok a st := id rfl
def oIf {α : Type} (b : Bool) (o : Out α) : Out α := if b then o else .bad
theorem o_if {o : Out α} : oIf true o = o := id rfl
theorem wE_oIf {b : Bool} {o : Out α} : wE (oIf b o) Q E = (b = true ∧ wE o Q E) := by
  cases b <;> simp [oIf, wE]
/-! statements, expressions -/
theorem w_bNil : wS (bNil env st) D = D.nx env st := id rfl
theorem w_sBrk : wS (sBrk env st) D = D.bk env st := id rfl
theorem w_sCnt : wS (sCnt env st) D = D.ct env st := id rfl
theorem w_sIf {tc : Env → Store → Out Bool} {f g : FS} : wS (sIf tc f g env st) D = wE (tc env st) (fun k s => (k = true → wS (f env s) D) ∧ (k = false → wS (g env s) D)) (fun c fs s => D.ex c fs env s) := by
  unfold sIf
  rw [wS_bindS]
  refine wE_eq fun k s => ?_
  cases k <;> simp
theorem w_sRet {fe : FE} : wS (sRet fe env st) D = wE (fe env st) (fun w s => isLr w = false ∧ D.rt w s) (fun c fs s => D.ex c fs env s) := by
  unfold sRet
  rw [wS_bindS]
  refine wE_eq fun k s => ?_
  cases h : isLr k <;> simp [wS]
theorem w_sRetN : wS (sRetN env st) D = D.rt .non st := id rfl
theorem w_sSet {i : Nat} {fe : FE} : wS (sSet i fe env st) D = wE (fe env st) (fun w s => isLr w = false ∧ D.nx (env.set i (.v w)) s) (fun c fs s => D.ex c fs env s) := by
  unfold sSet
  rw [wS_bindS]
  refine wE_eq fun k s => ?_
  cases h : isLr k <;> simp [wS]
theorem w_sSetL {i : Nat} {fl : Env → Store → Out (List W)} : wS (sSetL i fl env st) D = wE (fl env st) (fun ws s => D.nx (env.set i (.l ws)) s) (fun c fs s => D.ex c fs env s) := by
  unfold sSetL
  rw [wS_bindS]; rfl
theorem w_sExp {fe : FE} : wS (sExp fe env st) D = wE (fe env st) (fun w s => D.nx env s) (fun c fs s => D.ex c fs env s) := by
  unfold sExp
  rw [wS_bindS]; rfl
theorem w_eBin {g : W → W → Store → Out W} {fa fb : FE} {Q : W → Store → Prop} : wE (eBin g fa fb env st) Q E = wE (fa env st) (fun x s => wE (fb env s) (fun y s' => wE (g x y s') Q E) E) E := by
  unfold eBin; simp only [wE_bind]
  repeat first | rfl | (refine wE_eq fun _ _ => ?_) | rw [wE_bind]
theorem w_lBin {g : W → W → Store → Out (List W)} {fa fb : FE} {Q : List W → Store → Prop} : wE (lBin g fa fb env st) Q E = wE (fa env st) (fun x s => wE (fb env s) (fun y s' => wE (g x y s') Q E) E) E := by
  unfold lBin; simp only [wE_bind]
  repeat first | rfl | (refine wE_eq fun _ _ => ?_) | rw [wE_bind]
theorem w_eUn {g : W → Store → Out W} {fa : FE} {Q : W → Store → Prop} : wE (eUn g fa env st) Q E = wE (fa env st) (fun x s => wE (g x s) Q E) E := by
  unfold eUn; simp only [wE_bind]
  repeat first | rfl | (refine wE_eq fun _ _ => ?_) | rw [wE_bind]
theorem w_lUn {g : W → Store → Out (List W)} {fa : FE} {Q : List W → Store → Prop} : wE (lUn g fa env st) Q E = wE (fa env st) (fun x s => wE (g x s) Q E) E := by
  unfold lUn; simp only [wE_bind]
  repeat first | rfl | (refine wE_eq fun _ _ => ?_) | rw [wE_bind]
theorem w_tOf {f : FE} {Q : Bool → Store → Prop} : wE (tOf f env st) Q E = wE (f env st) (fun w s => wE (oBl w s) Q E) E := by
  unfold tOf; simp only [wE_bind]
  rfl
theorem w_tAnd2 {a b : Env → Store → Out Bool} {Q : Bool → Store → Prop} : wE (tAnd2 a b env st) Q E = wE (a env st) (fun x s => (x = true → wE (b env s) Q E) ∧ (x = false → Q false s)) E := by
  unfold tAnd2; simp only [wE_bind]
  refine wE_eq fun w s => ?_
  cases w <;> simp [wE]
theorem w_tOr2 {a b : Env → Store → Out Bool} {Q : Bool → Store → Prop} : wE (tOr2 a b env st) Q E = wE (a env st) (fun x s => (x = true → Q true s) ∧ (x = false → wE (b env s) Q E)) E := by
  unfold tOr2; simp only [wE_bind]
  refine wE_eq fun w s => ?_
  cases w <;> simp [wE]
theorem w_tNot1 {a : Env → Store → Out Bool} {Q : Bool → Store → Prop} : wE (tNot1 a env st) Q E = wE (a env st) (fun x s => Q (!x) s) E := by
  unfold tNot1; simp only [wE_bind, wE_ok]
  repeat first | rfl | (refine wE_eq fun _ _ => ?_) | rw [wE_bind]
theorem w_eAnd {fa fb : FE} {Q : W → Store → Prop} : wE (eAnd fa fb env st) Q E = wE (fa env st) (fun x s => wE (oBl x s) (fun b s => (b = true → wE (fb env s) Q E) ∧ (b = false → Q (.bl false) s)) E) E := by
  unfold eAnd; simp only [wE_bind]
  refine wE_eq fun w s => ?_
  cases w <;> try rfl
  rename_i b
  cases b <;> simp [wE, oBl]
theorem w_eOr {fa fb : FE} {Q : W → Store → Prop} : wE (eOr fa fb env st) Q E = wE (fa env st) (fun x s => wE (oBl x s) (fun b s => (b = true → Q (.bl true) s) ∧ (b = false → wE (fb env s) Q E)) E) E := by
  unfold eOr; simp only [wE_bind]
  refine wE_eq fun w s => ?_
  cases w <;> try rfl
  rename_i b
  cases b <;> simp [wE, oBl]
theorem w_eNot {fa : FE} {Q : W → Store → Prop} : wE (eNot fa env st) Q E = wE (fa env st) (fun x s => wE (oBl x s) (fun b s => Q (.bl (!b)) s) E) E := by
  unfold eNot; simp only [wE_bind]
  refine wE_eq fun w s => ?_
  cases w <;> rfl
theorem w_eIf {tc : Env → Store → Out Bool} {fa fb : FE} {Q : W → Store → Prop} : wE (eIf tc fa fb env st) Q E = wE (tc env st) (fun k s => (k = true → wE (fa env s) Q E) ∧ (k = false → wE (fb env s) Q E)) E := by
  unfold eIf; simp only [wE_bind]
  refine wE_eq fun k s => ?_
  cases k <;> simp
theorem w_eC {w : W} {Q : W → Store → Prop} : wE (eC w env st) Q E = Q w st := id rfl
theorem w_eTup {fr : Env → Store → Out (List W)} {Q : W → Store → Prop} : wE (eTup fr env st) Q E = wE (fr env st) (fun ws s => ws.length ≤ 1000000 ∧ Q (.tup ws) s) E := by
  unfold eTup; simp only [wE_bind]
  refine wE_eq fun ws s => ?_
  by_cases h : ws.length ≤ 1000000 <;> simp [h, wE]
theorem w_lLst {fr : Env → Store → Out (List W)} {Q : List W → Store → Prop} : wE (lLst fr env st) Q E = wE (fr env st) (fun ws s => ws.length ≤ 1000000 ∧ Q ws s) E := by
  unfold lLst; simp only [wE_bind]
  refine wE_eq fun ws s => ?_
  by_cases h : ws.length ≤ 1000000 <;> simp [h, wE]
theorem w_aNil {Q : List W → Store → Prop} : wE (aNil env st) Q E = Q [] st := id rfl
theorem w_aCons {fe : FE} {fr : Env → Store → Out (List W)} {Q : List W → Store → Prop} : wE (aCons fe fr env st) Q E = wE (fe env st) (fun w s => isLr w = false ∧ wE (fr env s) (fun ws s' => Q (w :: ws) s') E) E := by
  unfold aCons; simp only [wE_bind]
  refine wE_eq fun w s => ?_
  cases h : isLr w <;> simp [wE_bind, wE_ok, wE_bad]
  exact iff_of_eq (wE_eq fun _ _ => wE_ok)
theorem w_eIm {fl : Env → Store → Out (List W)} {Q : W → Store → Prop} : wE (eIm fl env st) Q E = wE (fl env st) (fun ws s => Q (.im ws) s) E := by
  unfold eIm; simp only [wE_bind, wE_ok]
  repeat first | rfl | (refine wE_eq fun _ _ => ?_) | rw [wE_bind]
theorem w_eAl {fl : Env → Store → Out (List W)} {Q : W → Store → Prop} : wE (eAl fl env st) Q E = wE (fl env st) (fun ws s => Q (.ref s.length) (s ++ [.lst ws])) E := by
  unfold eAl; simp only [wE_bind, wE_ok]
  repeat first | rfl | (refine wE_eq fun _ _ => ?_) | rw [wE_bind]
theorem w_eCall {m : FF} {dws : List W} {fr : Env → Store → Out (List W)} {Q : W → Store → Prop} : wE (eCall m dws fr env st) Q E = wE (fr env st) (fun ws s => wE (m (ws ++ dws) s) Q E) E := by
  unfold eCall; simp only [wE_bind]
  repeat first | rfl | (refine wE_eq fun _ _ => ?_) | rw [wE_bind]
theorem w_eFld {fld : Nat → Bool} {f : String} {fo : FE} {Q : W → Store → Prop} : wE (eFld fld f fo env st) Q E = wE (fo env st) (fun x s => wE (oOp (insAt s x) s) (fun t s => wE (oIf (fld t.2.1) (oOp (t.2.2.lookup f) s)) Q E) E) E := by
  unfold eFld; simp only [wE_bind]
  refine wE_eq fun x s => ?_
  cases h : insAt s x with
  | none => simp [wE, oOp]
  | some t =>
    obtain ⟨n, c, fs⟩ := t
    cases hc : fld c <;> cases hl : fs.lookup f <;> simp [wE, hc, hl, oOp, oIf]
theorem w_eM1 {g : W → W → Store → Out W} {fo fa : FE} {Q : W → Store → Prop} : wE (eM1 g fo fa env st) Q E = wE (fo env st) (fun x s => isL s x = true ∧ wE (fa env s) (fun y s' => wE (g x y s') Q E) E) E := by
  unfold eM1; simp only [wE_bind]
  refine wE_eq fun x s => ?_
  cases h : isL s x <;> simp [wE_bind, wE_ok, wE_bad]
theorem w_eM0 {g : W → Store → Out W} {fo : FE} {Q : W → Store → Prop} : wE (eM0 g fo env st) Q E = wE (fo env st) (fun x s => isL s x = true ∧ wE (g x s) Q E) E := by
  unfold eM0; simp only [wE_bind]
  refine wE_eq fun x s => ?_
  cases h : isL s x <;> simp [wE_ok, wE_bad]
theorem w_eM2 {g : W → W → W → Store → Out W} {fo fa fb : FE} {Q : W → Store → Prop} : wE (eM2 g fo fa fb env st) Q E = wE (fo env st) (fun x s => isL s x = true ∧ wE (fa env s) (fun y s' => wE (fb env s') (fun z s'' => wE (g x y z s'') Q E) E) E) E := by
  unfold eM2; simp only [wE_bind]
  refine wE_eq fun x s => ?_
  cases h : isL s x <;> simp [wE_bind, wE_ok, wE_bad]
  exact iff_of_eq (wE_eq fun _ _ => wE_bind)
theorem w_eMeth {meth : Nat → Option FF} {nm : String} {fo : FE} {fr : Env → Store → Out (List W)} {Q : W → Store → Prop} : wE (eMeth meth nm fo fr env st) Q E = wE (fo env st) (fun x s => wE (oOp (insAt s x) s) (fun t s => wE (oIf (t.2.2.lookup nm).isNone (oOp (meth t.2.1) s)) (fun m s => wE (fr env s) (fun ws s' => wE (m (.ref t.1 :: ws) s') Q E) E) E) E) E := by
  unfold eMeth; simp only [wE_bind]
  refine wE_eq fun x s => ?_
  cases h : insAt s x with
  | none => simp [wE, oOp]
  | some t =>
    obtain ⟨n, c, fs⟩ := t
    cases hc : meth c <;> cases hl : fs.lookup nm <;> simp [wE_ok, wE_bad, wE_bind, hc, hl, oOp, oIf, -List.lookup_eq_none_iff]
def oPrp (prop : Nat → Option FF) (fld : Nat → Bool) (f : String) (t : Nat × Nat × List (String × W)) (s : Store) : Out W := match prop t.2.1 with
  | some m => (match m [.ref t.1] s with
    | .ok w s2 => .ok w s2
    | _ => .bad)
  | none => oIf (fld t.2.1) (oOp (t.2.2.lookup f) s)
theorem o_prp {prop : Nat → Option FF} {fld : Nat → Bool} {f : String} {t : Nat × Nat × List (String × W)} {m : FF} {Q : W → Store → Prop} (h : prop t.2.1 = some m) : wE (oPrp prop fld f t st) Q E = wE (m [.ref t.1] st) Q fun _ _ _ => False := by
  unfold oPrp
  rw [h]
  cases hm : m [.ref t.1] st <;> simp [wE, hm]
theorem o_prpN {prop : Nat → Option FF} {fld : Nat → Bool} {f : String} {t : Nat × Nat × List (String × W)} (h : prop t.2.1 = none) : oPrp prop fld f t st = oIf (fld t.2.1) (oOp (t.2.2.lookup f) st) := by
  unfold oPrp
  rw [h]
theorem w_ePrp {fld : Nat → Bool} {prop : Nat → Option FF} {f : String} {fo : FE} {Q : W → Store → Prop} : wE (ePrp fld prop f fo env st) Q E = wE (fo env st) (fun x s => wE (oOp (insAt s x) s) (fun t s => wE (oPrp prop fld f t s) Q E) E) E := by
  unfold ePrp; simp only [wE_bind]
  refine wE_eq fun x s => ?_
  cases h : insAt s x with
  | none => simp [wE, oOp]
  | some t =>
    obtain ⟨n, c, fs⟩ := t
    unfold oPrp
    cases hc : prop c with
    | none => cases hd : fld c <;> cases hl : fs.lookup f <;> simp [wE, hc, hl, hd, oOp, oIf]
    | some m => cases hm : m [.ref n] s <;> simp [wE, hc, hm, oOp]
theorem w_eNew {c : Nat} {m : FF} {dws : List W} {fr : Env → Store → Out (List W)} {Q : W → Store → Prop} : wE (eNew c m dws fr env st) Q E = wE (fr env st) (fun ws s => wE (m (.ref s.length :: (ws ++ dws)) (s ++ [.ins c []])) (fun w s' => w = .non ∧ Q (.ref s.length) s') E) E := by
  unfold eNew; simp only [wE_bind]
  refine wE_eq fun ws s => ?_
  rw [wE_bind]
  refine wE_eq fun w s' => ?_
  cases w <;> simp [wE]
theorem w_sFldW {fld : Nat → Bool} {f : String} {fv fo : FE} : wS (sFldW fld f fv fo env st) D = wE (fv env st) (fun w s => isLr w = false ∧ wE (fo env s) (fun x s' => wE (oOp (insAt s' x) s') (fun t s' => fld t.2.1 = true ∧ t.2.2.length < 900 ∧ D.nx env (s'.set t.1 (.ins t.2.1 (putW f w t.2.2)))) (fun c fs s => D.ex c fs env s)) (fun c fs s => D.ex c fs env s)) (fun c fs s => D.ex c fs env s) := by
  unfold sFldW; rw [wS_bindS]
  refine wE_eq fun w s => ?_
  cases hw : isLr w with
  | true => simp [wS]
  | false =>
    simp only [Bool.false_eq_true, if_false, wS_bindS, true_and]
    refine wE_eq fun x s' => ?_
    cases h : insAt s' x with
    | none => simp [wS, oOp, wE]
    | some t =>
      obtain ⟨n, c, fs⟩ := t
      cases hd : fld c <;> by_cases hl : fs.length < 900 <;> simp [wS, hl, hd, oOp, wE]
def oDel (t : Nat × List W) (y : W) (s : Store) : Out Unit := match y with
  | .int i => oIf (decide (-1000000 ≤ i) && decide (i ≤ 1000000)) (match ixN t.2.length i with
    | some k => .ok () (s.set t.1 (.lst (t.2.eraseIdx k)))
    | none => .bad)
  | _ => .bad
theorem w_sDel {fo fi : FE} : wS (sDel fo fi env st) D = wE (fo env st) (fun x s => wE (fi env s) (fun y s' => wE (oOp (lstR s' x) s') (fun t s' => wE (oDel t y s') (fun _ s => D.nx env s) fun c fs s => D.ex c fs env s) fun c fs s => D.ex c fs env s) (fun c fs s => D.ex c fs env s)) (fun c fs s => D.ex c fs env s) := by
  unfold sDel; rw [wS_bindS]
  refine wE_eq fun x s => ?_
  rw [wS_bindS]
  refine wE_eq fun y s' => ?_
  cases h : lstR s' x with
  | none => simp [wS, oOp, wE]
  | some t =>
    obtain ⟨n, ws⟩ := t
    cases y <;> try simp [wS, oOp, wE, oDel]
    rename_i i
    by_cases h1 : -1000000 ≤ i <;> by_cases h2 : i ≤ 1000000 <;> simp [h1, h2, oIf]
    cases hk : ixN ws.length i <;> simp
theorem w_sRaise1 {c : Nat} {f1 : String} {fa : FE} : wS (sRaise1 c f1 fa env st) D = wE (fa env st) (fun w s => isLr w = false ∧ D.ex c [(f1, w)] env s) (fun c fs s => D.ex c fs env s) := by
  unfold sRaise1; rw [wS_bindS]
  refine wE_eq fun w s => ?_
  cases h : isLr w <;> simp [wS]
end
end Hb

end

section
set_option Elab.async false
set_option linter.all false
set_option maxRecDepth 100000
set_option maxHeartbeats 4000000
/-! Hp1: .. of operations, loops, try. -/
namespace Hb
open PySem PySem.Spec PyProof.Rows L2

section
variable {Q : W → Store → Prop} {E : EX} {D : Po} {env : Env} {st : Store} {i j : Int}
theorem ixN_zero {n : Nat} : ixN (n + 1) 0 = some 0 := by
  unfold ixN
  rw [if_pos (by omega), if_pos (by omega)]; rfl
theorem ixN_of {n : Nat} {i : Int} (h0 : 0 ≤ i) (h1 : i < n) : ixN n i = some i.toNat := by
  unfold ixN
  rw [if_pos h0, if_pos h1]
theorem ixN_out {n : Nat} {i : Int} (h1 : (n : Int) ≤ i) : ixN n i = none := by
  unfold ixN
  rw [if_pos (by omega), if_neg (by omega)]
theorem v_add : gAdd (.int i) (.int j) st = .ok (.int (i + j)) st := id rfl
theorem v_addS {a b : List Nat} : gAdd (.str a) (.str b) st = oIf (decide (a.length + b.length ≤ 1000000)) (.ok (.str (a ++ b)) st) := by
  unfold gAdd oIf
  by_cases h : a.length + b.length ≤ 1000000 <;> simp [h]
theorem v_catT {a b : List W} : gCatT (.tup a) (.tup b) st = oIf (decide (a.length + b.length ≤ 1000000)) (.ok (.tup (a ++ b)) st) := by
  unfold gCatT oIf
  by_cases h : a.length + b.length ≤ 1000000 <;> simp [h]
theorem v_sub : gSub (.int i) (.int j) st = .ok (.int (i - j)) st := id rfl
theorem v_mul : gMul (.int i) (.int j) st = oIf (gMulC i j) (.ok (.int (i * j)) st) := id rfl
theorem v_div : gDiv (.int i) (.int j) st = oIf (gDivC i j) (.ok (.int (i / j)) st) := id rfl
theorem v_mod : gMod (.int i) (.int j) st = oIf (gModC i j) (.ok (.int (i % j)) st) := id rfl
theorem v_lt : gLt (.int i) (.int j) st = .ok (.bl (decide (i < j))) st := id rfl
theorem v_le : gLe (.int i) (.int j) st = .ok (.bl (decide (i ≤ j))) st := id rfl
theorem v_gt : gGt (.int i) (.int j) st = .ok (.bl (decide (j < i))) st := id rfl
theorem v_ge : gGe (.int i) (.int j) st = .ok (.bl (decide (j ≤ i))) st := id rfl
theorem v_isN {w : W} : gIsN w .non st = .ok (.bl (isN w)) st := id rfl
theorem v_notN {w : W} : gNotN w .non st = .ok (.bl (!isN w)) st := id rfl
theorem v_neg : gNeg (.int i) st = .ok (.int (-i)) st := id rfl
theorem v_int : gInt (.int i) st = .ok (.int i) st := id rfl
theorem v_intB {b : Bool} : gInt (.bl b) st = .ok (.int (if b then 1 else 0)) st := id rfl
theorem v_abs : gAbs (.int i) st = .ok (.int (if i < 0 then -i else i)) st := id rfl
theorem v_max2 : gMax2 (.int i) (.int j) st = .ok (.int (if j > i then j else i)) st := id rfl
theorem v_min2 : gMin2 (.int i) (.int j) st = .ok (.int (if j < i then j else i)) st := id rfl
def oD2 (f : PyData → PyData → Option W) (x y : Option PyData) (st : Store) : Out W := match x, y with
  | some d, some e => oOp (f d e) st
  | _, _ => .bad
theorem o_d2 {f : PyData → PyData → Option W} {d e : PyData} : oD2 f (some d) (some e) st = oOp (f d e) st := id rfl
theorem v_dat2 {f : PyData → PyData → Option W} {x y : W} : gDat2 f x y st = oD2 f (dat st x) (dat st y) st := by
  unfold gDat2 oD2
  cases dat st x <;> cases dat st y <;> try rfl
  rename_i d e
  cases h : f d e <;> simp [oOp, h]
def fEq (d e : PyData) : Option W := some (.bl (d.eqv e))
def fNe (d e : PyData) : Option W := some (.bl (!d.eqv e))
theorem f_eq {d e : PyData} : fEq d e = some (.bl (d.eqv e)) := id rfl
theorem f_ne {d e : PyData} : fNe d e = some (.bl (!d.eqv e)) := id rfl
theorem v_eq {x y : W} : gEq x y st = oD2 fEq (dat st x) (dat st y) st := v_dat2
theorem v_ne {x y : W} : gNe x y st = oD2 fNe (dat st x) (dat st y) st := v_dat2
def oTup (o : Option (List W)) (st : Store) : Out W := match o with
  | some ws => .ok (.tup ws) st
  | none => .bad
theorem o_tup {ws : List W} : oTup (some ws) st = .ok (.tup ws) st := id rfl
def oLen (o : Option (List W)) (st : Store) : Out W := match o with
  | some ws => .ok (.int ws.length) st
  | none => .bad
theorem o_len {ws : List W} : oLen (some ws) st = .ok (.int ws.length) st := id rfl
theorem v_lenS {l : List Nat} : gLen (.str l) st = oIf (decide (l.length ≤ 1000000)) (.ok (.int l.length) st) := by
  unfold gLen oIf
  by_cases h : l.length ≤ 1000000 <;> simp [h]
theorem v_tup {w : W} : gTup w st = oTup (seqW st w) st := id rfl
theorem v_seqL {w : W} : gSeqL w st = oOp (seqW st w) st := by unfold gSeqL; cases seqW st w <;> rfl
def oBls (f : List Bool → Bool) (o : Option (List Bool)) (st : Store) : Out W := match o with
  | some bs => .ok (.bl (f bs)) st
  | none => .bad
theorem o_bls {f : List Bool → Bool} {bs : List Bool} : oBls f (some bs) st = .ok (.bl (f bs)) st := id rfl
theorem v_bls {f : List Bool → Bool} {w : W} : gBls f w st = oBls f ((lstW st w).bind blsW) st := id rfl
def oInt (o : Option Int) (st : Store) : Out W := match o with
  | some i => .ok (.int i) st
  | none => .bad
theorem o_int : oInt (some i) st = .ok (.int i) st := id rfl
theorem v_ints {f : List Int → Option Int} {w : W} : gInts f w st = oInt (((lstW st w).bind intsW).bind f) st := id rfl
def oAt (o : Option (List W)) (i : Int) (st : Store) : Out W := match o with
  | some ws => oOp (atW ws i) st
  | none => .bad
theorem o_at {ws : List W} : oAt (some ws) i st = oOp (atW ws i) st := id rfl
theorem v_ix {w : W} (h : ∀ l, w ≠ .str l) : gIx w (.int i) st = oAt (seqW st w) i st := by
  have key : (match seqW st w with
    | some ws => (match atW ws i with
      | some w => (.ok w st : Out W)
      | none => .bad)
    | none => .bad) = oAt (seqW st w) i st := by
    unfold oAt
    cases seqW st w with
    | none => rfl
    | some ws => cases h2 : atW ws i <;> simp [oOp, h2]
  cases w <;> first
    | exact absurd rfl (h _)
    | exact key
def oApp (o : Option (Nat × List W)) (y : W) (st : Store) : Out W := match o with
  | some t => oIf (!isLr y && decide (t.2.length < 1000000)) (.ok .non (st.set t.1 (.lst (t.2 ++ [y]))))
  | none => .bad
theorem o_app {t : Nat × List W} {y : W} : oApp (some t) y st = oIf (!isLr y && decide (t.2.length < 1000000)) (.ok .non (st.set t.1 (.lst (t.2 ++ [y])))) := id rfl
theorem v_app {x y : W} : gApp x y st = oApp (lstR st x) y st := by
  unfold gApp oApp
  cases h : isLr y <;> cases h2 : lstR st x <;> simp [oIf]
def oPopAt (o : Option (Nat × List W)) (i : Int) (st : Store) : Out W := match o with
  | some t => oIf (decide (-1000000 ≤ i) && decide (i ≤ 1000000)) (match ixN t.2.length i with
    | some k => (match t.2[k]? with
      | some y => .ok y (st.set t.1 (.lst (t.2.eraseIdx k)))
      | none => .bad)
    | none => .bad)
  | none => .bad
theorem o_popAt {t : Nat × List W} {k : Nat} {y : W} (h1 : -1000000 ≤ i) (h2 : i ≤ 1000000) (h3 : ixN t.2.length i = some k) (h4 : t.2[k]? = some y) : oPopAt (some t) i st = .ok y (st.set t.1 (.lst (t.2.eraseIdx k))) := by
  unfold oPopAt
  simp [h1, h2, h3, h4, oIf]
theorem o_pop0 {n : Nat} {x : W} {ws : List W} : oPopAt (some (n, x :: ws)) 0 st = .ok x (st.set n (.lst ws)) := by
  unfold oPopAt
  simp [oIf, ixN_zero]
theorem v_popAt {x : W} : gPopAt x (.int i) st = oPopAt (lstR st x) i st := by
  unfold gPopAt oPopAt
  cases h2 : lstR st x with
  | none => rfl
  | some t =>
    by_cases h3 : -1000000 ≤ i <;> by_cases h4 : i ≤ 1000000 <;> simp [h3, h4, oIf] <;> (cases h5 : ixN t.2.length i with
    | none => simp
    | some k => cases h6 : t.2[k]? <;> simp [h6])
def oPop (o : Option (Nat × List W)) (st : Store) : Out W := match o with
  | some t => (match t.2[t.2.length - 1]? with
    | some y => .ok y (st.set t.1 (.lst t.2.dropLast))
    | none => .bad)
  | none => .bad
theorem v_pop {x : W} : gPop x st = oPop (lstR st x) st := by
  unfold gPop oPop
  cases lstR st x with
  | none => rfl
  | some t => cases h6 : t.2[t.2.length - 1]? <;> simp [h6]
def oIns (o : Option (Nat × List W)) (i : Int) (y : W) (st : Store) : Out W := match o with
  | some t => oIf (!isLr y && (decide (t.2.length < 1000000) && (decide (0 ≤ i) && decide (i ≤ 1000000)))) (.ok .non (st.set t.1 (.lst (t.2.take i.toNat ++ [y] ++ t.2.drop i.toNat))))
  | none => .bad
theorem o_ins {t : Nat × List W} {y : W} : oIns (some t) i y st = oIf (!isLr y && (decide (t.2.length < 1000000) && (decide (0 ≤ i) && decide (i ≤ 1000000)))) (.ok .non (st.set t.1 (.lst (t.2.take i.toNat ++ [y] ++ t.2.drop i.toNat)))) := id rfl
theorem v_ins {x y : W} : gIns x (.int i) y st = oIns (lstR st x) i y st := by
  unfold gIns oIns
  cases h : isLr y <;> cases h2 : lstR st x <;> simp [oIf]
def oCat (x y : Option (List W)) (st : Store) : Out (List W) := match x, y with
  | some ws, some us => oIf (decide (ws.length + us.length ≤ 1000000)) (.ok (ws ++ us) st)
  | _, _ => .bad
theorem o_cat {ws us : List W} : oCat (some ws) (some us) st = oIf (decide (ws.length + us.length ≤ 1000000)) (.ok (ws ++ us) st) := id rfl
theorem v_cat {x y : W} : gCat x y st = oCat (lstM st x) (lstM st y) st := by
  unfold gCat oCat
  cases lstM st x <;> cases lstM st y <;> try rfl
  rename_i ws us
  by_cases h3 : ws.length + us.length ≤ 1000000 <;> simp [h3, oIf]
def fCnt (e d : PyData) : Option W := match e with
  | .list ds => some (.int ((ds.countP fun z => z.eqv d : Nat) : Int))
  | _ => none
theorem f_cnt {ds : List PyData} {d : PyData} : fCnt (.list ds) d = some (.int ((ds.countP fun z => z.eqv d : Nat) : Int)) := id rfl
theorem v_cnt {x y : W} : gCnt x y st = oD2 fCnt (dat st x) (dat st y) st := v_dat2
/-! isinstance, a handled exception -/
def oTy (T : String) (o : Option String) (st : Store) : Out W := match o with
  | some t => .ok (.bl (isT t T)) st
  | none => .bad
theorem o_ty {T t : String} : oTy T (some t) st = .ok (.bl (isT t T)) st := id rfl
theorem w_eIsT {T : String} {fe : FE} : wE (eIsT T fe env st) Q E = wE (fe env st) (fun w s => wE (oTy T (tyW s w) s) Q E) E := by
  unfold eIsT; rw [w_eUn]
  rfl
theorem w_eVar {i : Nat} : eVar i env st = oSl env[i]? st := by
  unfold eVar oSl
  cases env[i]? with
  | none => rfl
  | some s => cases s <;> rfl
def oIsX (test : Nat → Option Bool) (o : Option Sl) (st : Store) : Out W := match o with
  | some (.x c _) => (match test c with
    | some b => .ok (.bl b) st
    | none => .bad)
  | _ => .bad
theorem o_isX {test : Nat → Option Bool} {c : Nat} {fs : List (String × W)} : oIsX test (some (.x c fs)) st = (match test c with
    | some b => .ok (.bl b) st
    | none => .bad) := rfl
theorem w_eIsX {i : Nat} {test : Nat → Option Bool} : eIsX i test env st = oIsX test env[i]? st := by
  unfold eIsX oIsX
  cases env[i]? with
  | none => rfl
  | some s => cases s <;> rfl
def oXf (ok : Nat → Bool) (f : String) (o : Option Sl) (st : Store) : Out W := match o with
  | some (.x c fs) => oIf (ok c) (oOp (fs.lookup f) st)
  | _ => .bad
theorem o_xf {ok : Nat → Bool} {f : String} {c : Nat} {fs : List (String × W)} : oXf ok f (some (.x c fs)) st = oIf (ok c) (oOp (fs.lookup f) st) := id rfl
theorem w_eXf {i : Nat} {ok : Nat → Bool} {f : String} : eXf i ok f env st = oXf ok f env[i]? st := by
  unfold eXf oXf
  cases env[i]? with
  | none => rfl
  | some s =>
    cases s <;> try rfl
    rename_i c fs
    cases h : ok c <;> cases h2 : fs.lookup f <;> simp [oIf, oOp, h, h2]
def oCX (m : FFX) (o : Option Sl) (r : Out (List W)) : Out W := match o with
  | some (.x c fs) => r.bind fun ws s => (match m c fs ws s with
    | .ok w s2 => .ok w s2
    | _ => .bad)
  | _ => .bad
theorem o_cX {m : FFX} {c : Nat} {fs : List (String × W)} {r : Out (List W)} : wE (oCX m (some (.x c fs)) r) Q E = wE r (fun ws s => wE (m c fs ws s) Q fun _ _ _ => False) E := by
  unfold oCX
  simp only [wE_bind]
  refine wE_eq fun ws s => ?_
  cases m c fs ws s <;> rfl
theorem w_eCallX {i : Nat} {m : FFX} {fr : Env → Store → Out (List W)} : eCallX i m fr env st = oCX m env[i]? (fr env st) := by
  unfold eCallX oCX
  cases env[i]? with
  | none => rfl
  | some s => cases s <;> rfl
/-! sources, comprehensions, loops -/
def oRan (w : W) (s : Store) : Out Src := match w with
  | .int j => oIf (smallI j) (.ok (rangeW 0 j.toNat, none) s)
  | _ => .bad
theorem o_ran : oRan (.int j) st = oIf (smallI j) (.ok (rangeW 0 j.toNat, none) st) := id rfl
theorem w_iRan1 {fa : FE} {Q : Src → Store → Prop} : wE (iRan1 fa env st) Q E = wE (fa env st) (fun w s => wE (oRan w s) Q E) E := by
  unfold iRan1
  rw [wE_bind, w_aCons]
  refine wE_eq fun w s => ?_
  rw [w_aNil]
  cases w <;> try simp [isLr, wE, oRan]
  rename_i j
  cases h : smallI j <;> simp [h, oIf]
def srcW (st : Store) : W → Option Src
  | .tup ws => some (ws, none)
  | .im ws => some (ws, none)
  | .sc ws => some (ws, none)
  | .ref n => (seqW st (.ref n)).map fun ws => (ws, some n)
  | _ => none
theorem w_iSeq {fe : FE} {Q : Src → Store → Prop} : wE (iSeq fe env st) Q E = wE (fe env st) (fun w s => wE (oOp (srcW s w) s) Q E) E := by
  unfold iSeq
  rw [wE_bind]
  refine wE_eq fun w s => ?_
  cases w <;> try rfl
  rename_i n
  cases h : seqW s (.ref n) <;> simp [wE, srcW, h, oOp]
def ownW (itf : Nat → Bool) (fl : String) (st : Store) (w : W) : Option Src := match insAt st w with
  | some (_, c, fs) => if itf c then (match fs.lookup fl with
    | some (.ref m) => (match st[m]? with
      | some (.lst ws) => some (ws, some m)
      | _ => none)
    | _ => none) else none
  | none => none
theorem w_iOwn {itf : Nat → Bool} {fl : String} {fe : FE} {Q : Src → Store → Prop} : wE (iOwn itf fl fe env st) Q E = wE (fe env st) (fun w s => wE (oOp (ownW itf fl s w) s) Q E) E := by
  unfold iOwn
  rw [wE_bind]
  refine wE_eq fun w s => ?_
  unfold ownW
  cases insAt s w with
  | none => simp [wE, oOp]
  | some t =>
    obtain ⟨n, c, fs⟩ := t
    cases h1 : itf c with
    | false => simp [wE, h1, oOp]
    | true =>
      cases h2 : fs.lookup fl with
      | none => simp [wE, h1, h2, oOp]
      | some x =>
        cases x <;> try (simp [wE, h1, h2, oOp]; done)
        rename_i m
        cases h3 : s[m]? with
        | none => simp [wE, h1, h2, h3, oOp]
        | some q => cases q <;> simp [wE, h1, h2, h3, oOp]
theorem w_lComp {fi : Env → Store → Out Src} {vs : List Nat} {tg : FG} {tt : Env → Store → Out Bool} {fe : FE} {Q : List W → Store → Prop} : wE (lComp fi vs tg tt fe env st) Q E = wE (fi env st) (fun s st1 => wE (compL tg tt fe s.2 s.1 (wipeE env vs) s.1 st1 []) Q E) E := by
  unfold lComp; rw [wE_bind]
theorem compL_inv {tg : FG} {tt : Env → Store → Out Bool} {fe : FE} {ck : Option Nat} {all : List W} {Q : List W → Store → Prop} (I : Nat → Store → List W → Prop) (hck : ∀ i st acc, I i st acc → ckP ck all st) :
    ∀ (ws : List W) (k : Nat) (st : Store) (acc : List W), I k st acc → (∀ i w st acc, ws[i]? = some w → I (k + i) st acc → ∃ e1 s1, tg w env st = .nx e1 s1 ∧ wE (tt e1 s1) (fun b s2 => (b = true → wE (fe e1 s2) (fun y s3 => isLr y = false ∧ acc.length < 1000000 ∧ I (k + i + 1) s3 (acc ++ [y])) fun _ _ _ => False) ∧ (b = false → I (k + i + 1) s2 acc)) fun _ _ _ => False) →
      (∀ st acc, I (k + ws.length) st acc → Q acc st) → wE (compL tg tt fe ck all env ws st acc) Q E
  | [], k, st, acc, h, hs, he => by
    unfold compL
    rw [if_pos (hck _ _ _ h)]
    exact he st acc (by simpa using h)
  | w :: ws, k, st, acc, h, hs, he => by
    unfold compL
    rw [if_pos (hck _ _ _ h)]
    obtain ⟨e1, s1, h1, h2⟩ := hs 0 w st acc rfl h
    rw [h1]
    simp only
    obtain ⟨b, s2, h3, h4, h5⟩ := h2.eq
    rw [h3]
    simp only
    have next : ∀ st acc, I (k + 1) st acc → wE (compL tg tt fe ck all env ws st acc) Q E := fun st acc hi =>
      compL_inv I hck ws (k + 1) st acc hi (fun i w st acc hw hi2 => by
        have := hs (i + 1) w st acc (by simpa using hw) (by rw [show k + (i + 1) = k + 1 + i by omega]; exact hi2)
        rw [show k + (i + 1) = k + 1 + i by omega] at this; exact this) fun st acc hi2 => he st acc (by rw [List.length_cons, show k + (ws.length + 1) = k + 1 + ws.length by omega]; exact hi2)
    cases b with
    | true =>
      obtain ⟨y, s3, h6, h7, h8, h9⟩ := (h4 rfl).eq
      rw [if_pos rfl, h6]
      simp only
      rw [if_neg (by simp only [h7, Bool.false_or, decide_eq_true_eq]; omega)]
      exact next s3 _ h9
    | false =>
      rw [if_neg Bool.false_ne_true]
      exact next s2 acc (h5 rfl)
theorem w_sFor {fi : Env → Store → Out Src} {tg : FG} {body : FS} : wS (sFor fi tg body env st) D = wE (fi env st) (fun s st1 => wS (forL tg body s.2 s.1 s.1 env st1) D) (fun c fs s => D.ex c fs env s) := by
  unfold sFor; rw [wS_bindS]
theorem forL_inv {tg : FG} {body : FS} {ck : Option Nat} {all : List W} (I : Nat → Env → Store → Prop) (hck : ∀ i e st, I i e st → ckP ck all st) :
    ∀ (ws : List W) (k : Nat) (env : Env) (st : Store), I k env st → (∀ i w e s, ws[i]? = some w → I (k + i) e s → ∃ e1 s1, tg w e s = .nx e1 s1 ∧ wS (body e1 s1) { D with nx := I (k + i + 1), ct := I (k + i + 1), bk := D.nx }) →
      (∀ e s, I (k + ws.length) e s → D.nx e s) → wS (forL tg body ck all ws env st) D
  | [], k, env, st, h, hs, he => by
    unfold forL
    rw [if_pos (hck _ _ _ h)]
    exact he env st (by simpa using h)
  | w :: ws, k, env, st, h, hs, he => by
    unfold forL
    rw [if_pos (hck _ _ _ h)]
    obtain ⟨e1, s1, h1, h2⟩ := hs 0 w env st rfl h
    rw [h1]
    simp only
    have next : ∀ e s, I (k + 1) e s → wS (forL tg body ck all ws e s) D := fun e s hi =>
      forL_inv I hck ws (k + 1) e s hi (fun i w e s hw hi2 => by
        have := hs (i + 1) w e s (by simpa using hw) (by rw [show k + (i + 1) = k + 1 + i by omega]; exact hi2)
        rw [show k + (i + 1) = k + 1 + i by omega] at this; exact this) fun e s hi2 => he e s (by rw [List.length_cons, show k + (ws.length + 1) = k + 1 + ws.length by omega]; exact hi2)
    cases hb : body e1 s1 with
    | nx e s => rw [hb] at h2; exact next e s h2
    | ct e s => rw [hb] at h2; exact next e s h2
    | bk e s => rw [hb] at h2; exact h2
    | rt w s => rw [hb] at h2; exact h2
    | exc c fs e s => rw [hb] at h2; exact h2
    | bad => rw [hb] at h2; exact h2
theorem w_sTry {fb : FS} {cl : List ClF} : wS (sTry fb cl env st) D = wS (fb env st) { D with ex := fun c fs e s => wS (catchF c fs e s cl) D } := by
  unfold sTry
  cases fb env st <;> rfl
def oCatch (o : Option Bool) (a b : SO) : SO := match o with
  | some true => a
  | some false => b
  | none => .bad
theorem o_catchT {a b : SO} : oCatch (some true) a b = a := id rfl
theorem o_catchF {a b : SO} : oCatch (some false) a b = b := id rfl
theorem w_catch0 {c : Nat} {fs : List (String × W)} : wS (catchF c fs env st []) D = D.ex c fs env st := id rfl
theorem w_catch {c : Nat} {fs : List (String × W)} {t : Nat → Option Bool} {i : Nat} {f : FS} {r : List ClF} : catchF c fs env st (⟨t, some i, f⟩ :: r) = oCatch (t c) (aftX i (f (env.set i (.x c fs)) st)) (catchF c fs env st r) := by
  simp only [catchF]
  cases t c with
  | none => rfl
  | some b => cases b <;> rfl
theorem w_aftX {i : Nat} {o : SO} : wS (aftX i o) D = wS o { nx := fun e s => noX (e.set i .no) = true ∧ D.nx (e.set i .no) s, rt := D.rt, bk := fun e s => noX (e.set i .no) = true ∧ D.bk (e.set i .no) s, ct := fun e s => noX (e.set i .no) = true ∧ D.ct (e.set i .no) s, ex := fun _ _ _ _ => False } := by
  cases o with
  | nx e s => simp only [aftX]; cases h : noX (e.set i .no) <;> simp [wS, h]
  | bk e s => simp only [aftX]; cases h : noX (e.set i .no) <;> simp [wS, h]
  | ct e s => simp only [aftX]; cases h : noX (e.set i .no) <;> simp [wS, h]
  | rt w s => rfl
  | exc c fs e s => rfl
  | bad => rfl
theorem w_sAsg {fe : FE} {f : FG} : wS (sAsg fe f env st) D = wE (fe env st) (fun w s => isLr w = false ∧ wS (f w env s) { nx := D.nx, rt := fun _ _ => False, bk := fun _ _ => False, ct := fun _ _ => False, ex := fun _ _ _ _ => False }) (fun c fs s => D.ex c fs env s) := by
  unfold sAsg
  rw [wS_bindS]
  refine wE_eq fun w s => ?_
  cases h : isLr w with
  | true => simp [wS]
  | false =>
    cases hf : f w env s <;> simp [wS]
theorem w_lCut {fe : FE} {fl fh : FO} {Q : List W → Store → Prop} : wE (lCut fe fl fh env st) Q E = wE (fe env st) (fun w s => wE (fl env s) (fun lo s2 => wE (fh env s2) (fun hi s3 => wE (oOp (lstW s3 w) s3) (fun ws s3 => Q (cutW ws lo hi) s3) E) E) E) E := by
  unfold lCut
  simp only [wE_bind]
  refine wE_eq fun w s => ?_
  rw [wE_bind]
  refine wE_eq fun lo s2 => ?_
  rw [wE_bind]
  refine wE_eq fun hi s3 => ?_
  cases lstW s3 w <;> simp [wE, oOp]
theorem w_oNone {Q : Option Int → Store → Prop} : wE (oNone env st) Q E = Q none st := id rfl
def oSm (w : W) (s : Store) : Out (Option Int) := match w with
  | .int i => .ok (some i) s
  | _ => .bad
theorem o_sm : oSm (.int i) st = .ok (some i) st := id rfl
theorem w_oSome {fe : FE} {Q : Option Int → Store → Prop} : wE (oSome fe env st) Q E = wE (fe env st) (fun w s => wE (oSm w s) Q E) E := by
  unfold oSome
  rw [wE_bind]
  rfl
theorem w_tYes {Q : Bool → Store → Prop} : wE (tYesE env st) Q E = Q true st := id rfl
/-! data -/
theorem dat_non : dat st .non = some .none := by unfold dat; rw [datW]
theorem dat_bl {b : Bool} : dat st (.bl b) = some (.bool b) := by unfold dat; rw [datW]
theorem dat_int : dat st (.int i) = some (.int i) := by unfold dat; rw [datW]
theorem dat_str {l : List Nat} (h : okS l = true) : dat st (.str l) = some (.str ⟨l.toArray⟩) := by unfold dat; rw [datW, if_pos h]
theorem okS_cs (s : String) (h : (s.toList.all fun c => decide (c.toNat < 1114112)) = true := by decide) : okS (cs s) = true := by
  unfold okS cs
  rw [List.all_map]
  exact h
theorem okS_all (s : String) : okS (cs s) = true := by
  unfold okS cs
  rw [List.all_map, List.all_eq_true]
  intro c _
  have h : c.toNat < 1114112 := by
    have := c.valid
    show c.val.toNat < _
    rcases this with h | h
    · have : c.val.toNat < 0xd800 := h
      omega
    · have : c.val.toNat < 0x110000 := h.2
      omega
  simpa using h
theorem dat_cs {s : String} : dat st (.str (cs s)) = some (.str ⟨(cs s).toArray⟩) := dat_str (okS_all s)
theorem dat_tup {ws : List W} : dat st (.tup ws) = (datWs st 15 ws).map .tuple := by unfold dat; rw [datW]
theorem dat_im {ws : List W} : dat st (.im ws) = (datWs st 15 ws).map .list := by unfold dat; rw [datW]
theorem dat_ref {n : Nat} {ws : List W} (h : st[n]? = some (.lst ws)) : dat st (.ref n) = (datWs st 15 ws).map .list := by unfold dat; rw [datW, h]
theorem eqv_int {a b : Int} : PyData.eqv (.int a) (.int b) = decide (a = b) := by simp only [PyData.eqv]; rfl
theorem eqv_bool {a b : Bool} : PyData.eqv (.bool a) (.bool b) = decide (a = b) := by simp only [PyData.eqv]; cases a <;> cases b <;> rfl
theorem eqv_cs {a b : String} : PyData.eqv (.str ⟨(cs a).toArray⟩) (.str ⟨(cs b).toArray⟩) = decide (a = b) := by
  simp only [PyData.eqv]
  by_cases h : a = b
  · subst h; simp
  · have : ¬ (cs a) = (cs b) := fun z => h (cs_inj.mp z)
    simp [h, this]
theorem eqv_str {a : Str} : PyData.eqv (.str a) (.str a) = true := by simp [PyData.eqv]
theorem eqv_l00 : PyData.eqv (.list []) (.list []) = true := by simp [PyData.eqv, PyData.eqvAll]
theorem eqv_l10 {d : PyData} {ds : List PyData} : PyData.eqv (.list (d :: ds)) (.list []) = false := by simp [PyData.eqv, PyData.eqvAll]
theorem eqv_t00 : PyData.eqv (.tuple []) (.tuple []) = true := by simp [PyData.eqv, PyData.eqvAll]
theorem eqv_t10 {d : PyData} {ds : List PyData} : PyData.eqv (.tuple (d :: ds)) (.tuple []) = false := by simp [PyData.eqv, PyData.eqvAll]
mutual
theorem eqv_refl : ∀ d : PyData, d.canLay0 = true → PyData.eqv d d = true
  | .none, _ => by simp [PyData.eqv]
  | .bool b, _ => by simp [PyData.eqv]
  | .int i, _ => by simp [PyData.eqv]
  | .str s, _ => by simp [PyData.eqv]
  | .list ds, h => by simp only [PyData.eqv]; exact eqvs_refl ds (by simpa [PyData.canLay0] using h)
  | .tuple ds, h => by simp only [PyData.eqv]; exact eqvs_refl ds (by simpa [PyData.canLay0] using h)
  | .dict _, h => by simp [PyData.canLay0] at h
theorem eqvs_refl : ∀ ds : List PyData, PyData.canLayAll0 ds = true → PyData.eqvAll ds ds = true
  | [], _ => by simp [PyData.eqvAll]
  | d :: ds, h => by
    simp only [PyData.canLayAll0, Bool.and_eq_true] at h
    simp only [PyData.eqvAll, Bool.and_eq_true]
    exact ⟨eqv_refl d h.1, eqvs_refl ds h.2⟩
end
/-! references -/
section
variable {st : Store} {n : Nat} {ws : List W}
theorem r_lstR : lstR st (.ref n) = (match st[n]? with
  | some (.lst ws) => some (n, ws)
  | _ => none) := rfl
theorem r_lstM : lstM st (.ref n) = (match st[n]? with
  | some (.lst ws) => some ws
  | _ => none) := rfl
theorem r_seqW : seqW st (.ref n) = (match st[n]? with
  | some (.lst ws) => some ws
  | _ => none) := rfl
theorem r_lstW : lstW st (.ref n) = (match st[n]? with
  | some (.lst ws) => some ws
  | _ => none) := rfl
theorem r_isL : isL st (.ref n) = (match st[n]? with
  | some (.lst ws) => true
  | _ => false) := by
  unfold isL; rw [r_lstW]
  cases st[n]? with
  | none => rfl
  | some c => cases c <;> rfl
theorem r_insAt : insAt st (.ref n) = (match st[n]? with
  | some (.ins c fs) => some (n, c, fs)
  | _ => none) := rfl
theorem r_tyW : tyW st (.ref n) = (match st[n]? with
  | some (.lst _) => some "list"
  | some (.dic _) => some "dict"
  | _ => none) := rfl
theorem r_srcW : srcW st (.ref n) = (match st[n]? with
  | some (.lst ws) => some (ws, some n)
  | _ => none) := by
  simp only [srcW, r_seqW]
  cases st[n]? with
  | none => rfl
  | some c => cases c <;> rfl
theorem r_dat : dat st (.ref n) = (match st[n]? with
  | some (.lst ws) => (datWs st 15 ws).map .list
  | _ => none) := by
  cases h : st[n]? with
  | none => unfold dat; rw [datW, h]
  | some c => cases c <;> (unfold dat; rw [datW, h])
theorem s_im : seqW st (.im ws) = some ws := id rfl
theorem s_tup : seqW st (.tup ws) = some ws := id rfl
theorem s_lr : seqW st (.lr ws) = some ws := id rfl
theorem s_sc : seqW st (.sc ws) = some ws := id rfl
theorem l_im : lstW st (.im ws) = some ws := id rfl
theorem l_lr : lstW st (.lr ws) = some ws := id rfl
theorem l_sc : lstW st (.sc ws) = some ws := id rfl
theorem m_im : lstM st (.im ws) = some ws := id rfl
theorem m_lr : lstM st (.lr ws) = some ws := id rfl
theorem i_im : isL st (.im ws) = true := id rfl
theorem i_lr : isL st (.lr ws) = true := id rfl
theorem i_sc : isL st (.sc ws) = true := id rfl
theorem c_im : srcW st (.im ws) = some (ws, none) := id rfl
theorem c_tup : srcW st (.tup ws) = some (ws, none) := id rfl
theorem c_sc : srcW st (.sc ws) = some (ws, none) := id rfl
theorem t_tup : tyW st (.tup ws) = some "tuple" := id rfl
theorem t_im : tyW st (.im ws) = some "list" := id rfl
theorem t_int {i : Int} : tyW st (.int i) = some "int" := id rfl
theorem t_bl {i : Bool} : tyW st (.bl i) = some "bool" := id rfl
theorem t_str {l : List Nat} : tyW st (.str l) = some "str" := id rfl
theorem t_non : tyW st .non = some "NoneType" := id rfl
theorem ln_ref : gLen (.ref n) st = oLen (seqW st (.ref n)) st := id rfl
theorem ln_tup : gLen (.tup ws) st = .ok (.int ws.length) st := id rfl
theorem ln_im : gLen (.im ws) st = .ok (.int ws.length) st := id rfl
theorem ln_lr : gLen (.lr ws) st = .ok (.int ws.length) st := id rfl
theorem ln_sc : gLen (.sc ws) st = .ok (.int ws.length) st := id rfl
theorem ix_ref {i : Int} : gIx (.ref n) (.int i) st = oAt (seqW st (.ref n)) i st := v_ix fun _ h => by cases h
theorem ix_tup' {i : Int} : gIx (.tup ws) (.int i) st = oOp (atW ws i) st := v_ix fun _ h => by cases h
theorem ix_im {i : Int} : gIx (.im ws) (.int i) st = oOp (atW ws i) st := v_ix fun _ h => by cases h
theorem ix_lr {i : Int} : gIx (.lr ws) (.int i) st = oOp (atW ws i) st := v_ix fun _ h => by cases h
theorem ix_sc {i : Int} : gIx (.sc ws) (.int i) st = oOp (atW ws i) st := v_ix fun _ h => by cases h
theorem isN_ref : isN (.ref n) = false := id rfl
theorem isN_non : isN .non = true := id rfl
theorem isN_tup : isN (.tup ws) = false := id rfl
theorem isN_int {i : Int} : isN (.int i) = false := id rfl
theorem isN_bl {i : Bool} : isN (.bl i) = false := id rfl
theorem isN_str {l : List Nat} : isN (.str l) = false := id rfl
theorem isN_im : isN (.im ws) = false := id rfl
end
theorem il_int {i : Int} : isLr (.int i) = false := id rfl
theorem il_bl {i : Bool} : isLr (.bl i) = false := id rfl
theorem il_str {l : List Nat} : isLr (.str l) = false := id rfl
theorem il_non : isLr .non = false := id rfl
theorem il_tup {ws : List W} : isLr (.tup ws) = false := id rfl
theorem il_im {ws : List W} : isLr (.im ws) = false := id rfl
theorem il_sc {ws : List W} : isLr (.sc ws) = false := id rfl
theorem il_ref {n : Nat} : isLr (.ref n) = false := id rfl
theorem il_cl {n : Nat} : isLr (.cl n) = false := id rfl
theorem il_lr {ws : List W} : isLr (.lr ws) = true := id rfl
theorem it_NoneType_bool : isT "NoneType" "bool" = false := by decide
theorem it_NoneType_int : isT "NoneType" "int" = false := by decide
theorem it_NoneType_str : isT "NoneType" "str" = false := by decide
theorem it_NoneType_tuple : isT "NoneType" "tuple" = false := by decide
theorem it_NoneType_list : isT "NoneType" "list" = false := by decide
theorem it_NoneType_dict : isT "NoneType" "dict" = false := by decide
theorem it_bool_bool : isT "bool" "bool" = true := by decide
theorem it_bool_int : isT "bool" "int" = true := by decide
theorem it_bool_str : isT "bool" "str" = false := by decide
theorem it_bool_tuple : isT "bool" "tuple" = false := by decide
theorem it_bool_list : isT "bool" "list" = false := by decide
theorem it_bool_dict : isT "bool" "dict" = false := by decide
theorem it_int_bool : isT "int" "bool" = false := by decide
theorem it_int_int : isT "int" "int" = true := by decide
theorem it_int_str : isT "int" "str" = false := by decide
theorem it_int_tuple : isT "int" "tuple" = false := by decide
theorem it_int_list : isT "int" "list" = false := by decide
theorem it_int_dict : isT "int" "dict" = false := by decide
theorem it_str_bool : isT "str" "bool" = false := by decide
theorem it_str_int : isT "str" "int" = false := by decide
theorem it_str_str : isT "str" "str" = true := by decide
theorem it_str_tuple : isT "str" "tuple" = false := by decide
theorem it_str_list : isT "str" "list" = false := by decide
theorem it_str_dict : isT "str" "dict" = false := by decide
theorem it_tuple_bool : isT "tuple" "bool" = false := by decide
theorem it_tuple_int : isT "tuple" "int" = false := by decide
theorem it_tuple_str : isT "tuple" "str" = false := by decide
theorem it_tuple_tuple : isT "tuple" "tuple" = true := by decide
theorem it_tuple_list : isT "tuple" "list" = false := by decide
theorem it_tuple_dict : isT "tuple" "dict" = false := by decide
theorem it_list_bool : isT "list" "bool" = false := by decide
theorem it_list_int : isT "list" "int" = false := by decide
theorem it_list_str : isT "list" "str" = false := by decide
theorem it_list_tuple : isT "list" "tuple" = false := by decide
theorem it_list_list : isT "list" "list" = true := by decide
theorem it_list_dict : isT "list" "dict" = false := by decide
theorem it_dict_bool : isT "dict" "bool" = false := by decide
theorem it_dict_int : isT "dict" "int" = false := by decide
theorem it_dict_str : isT "dict" "str" = false := by decide
theorem it_dict_tuple : isT "dict" "tuple" = false := by decide
theorem it_dict_list : isT "dict" "list" = false := by decide
theorem it_dict_dict : isT "dict" "dict" = true := by decide
theorem w_for0 {tg : FG} {body : FS} {all : List W} : wS (forL tg body none all [] env st) D = D.nx env st := by
  unfold forL
  rw [if_pos (show ckP none all st from trivial)]; rfl
theorem w_for1 {tg : FG} {body : FS} {all : List W} {w : W} {ws : List W} : wS (forL tg body none all (w :: ws) env st) D = wS (tg w env st) { nx := fun e1 s1 => wS (body e1 s1) { D with nx := fun e s => wS (forL tg body none all ws e s) D, ct := fun e s => wS (forL tg body none all ws e s) D, bk := D.nx }, rt := fun _ _ => False, bk := fun _ _ => False, ct := fun _ _ => False, ex := fun _ _ _ _ => False } := by
  conv => lhs; unfold forL
  rw [if_pos (show ckP none all st from trivial)]
  cases tg w env st <;> try rfl
  rename_i e1 s1
  simp only [wS_nx]
  cases body e1 s1 <;> rfl
def oSetIx (o : Option (Nat × List W)) (y w : W) (s : Store) : Out Unit := match o, y with
  | some t, .int i => (match ixN t.2.length i with
    | some j => .ok () (s.set t.1 (.lst (t.2.set j w)))
    | none => .bad)
  | _, _ => .bad
theorem o_setIx {t : Nat × List W} {w : W} {k : Nat} (h : ixN t.2.length i = some k) : oSetIx (some t) (.int i) w st = .ok () (st.set t.1 (.lst (t.2.set k w))) := by
  simp only [oSetIx, h]
theorem w_gSet {fo fi : FE} {w : W} : wS (gSet fo fi w env st) D = wE (fo env st) (fun x s => wE (fi env s) (fun y s' => wE (oSetIx (lstR s' x) y w s') (fun _ s3 => D.nx env s3) fun _ _ _ => False) fun _ _ _ => False) fun _ _ _ => False := by
  unfold gSet
  cases fo env st <;> try rfl
  rename_i x s
  simp only [wE_ok]
  cases fi env s <;> try rfl
  rename_i y s'
  simp only [wE_ok, gSetIx]
  cases h : lstR s' x with
  | none => rfl
  | some t =>
    cases y <;> try rfl
    rename_i i
    simp only [oSetIx]
    cases ixN t.2.length i <;> rfl
theorem w_gN {i : Nat} {w : W} : gN i w env st = .nx (env.set i (.v w)) st := id rfl
/-- [x for x in ..] -/
theorem comp_id {i : Nat} {ck : Option Nat} {all : List W} {Q : List W → Store → Prop} (hck : ckP ck all st) (hi : i < env.length) : ∀ (ws : List W) (acc : List W), (∀ w ∈ ws, isLr w = false) → acc.length + ws.length ≤ 1000000 → Q (acc ++ ws) st → wE (compL (gN i) tYesE (eVar i) ck all env ws st acc) Q E
  | [], acc, _, _, q => by
    unfold compL
    rw [if_pos hck]
    exact (by simpa using q : Q acc st)
  | w :: ws, acc, hl, hz, q => by
    unfold compL
    rw [if_pos hck]
    simp only [gN, tYesE, if_true]
    have : eVar i (env.set i (.v w)) st = .ok w st := by rw [w_eVar, List.getElem?_set_self hi]; rfl
    rw [this]
    simp only
    rw [if_neg (by
      simp only [hl w List.mem_cons_self, Bool.false_or, decide_eq_true_eq]
      simp only [List.length_cons] at hz
      omega)]
    exact comp_id hck hi ws (acc ++ [w]) (fun x hx => hl x (List.mem_cons_of_mem _ hx)) (by simp only [List.length_append, List.length_cons, List.length_nil] at hz ⊢; omega) (by simpa using q)
end
end Hb

end

section
set_option Elab.async false
set_option linter.all false
set_option maxRecDepth 100000
set_option maxHeartbeats 0

namespace Kheldbestk65nets
open PySem PySem.Spec PyProof.Rows L2 Hb

def top (i : Nat) : Stmt := PySem.Challenge.pw_heldbest_k65_nets.main.body.getD i (.Pass ⟨0, 0, 0, 0⟩)

def cnm (c : Nat) : Str := (["HeldError", "OutOfRange", "Unread", "Unfit", "NotAccepted", "BadStart", "BadSlips", "TooHeavy", "NotBest", "NotOneChange", "BadWord", "Busy", "NoLetter", "Down", "Up", "NotSynced", "BadEvent", "NotAtRest", "Warm", "NothingToUndo", "NothingToRedo", "Net"] : List Str).getD c "?"

abbrev gg (K : PySem.W.Frag) : Glo := ⟨K, fun c => He.ga K (cnm c), fun _ _ _ => False⟩

def d_0 : DefE := { at_ := .m "Net" "__init__", name := "__init__", qual := "Net.__init__", params := defArgs (inClass (top 24) 0), body := defBody (inClass (top 24) 0), scope := defScope (inClass (top 24) 0) }

def d_1 : DefE := { at_ := .p "Net" "letters", name := "letters", qual := "Net.letters", params := defArgs (inClass (top 24) 2), body := defBody (inClass (top 24) 2), scope := defScope (inClass (top 24) 2) }

def d_2 : DefE := { at_ := .g "_law_draw", name := "_law_draw", qual := "_law_draw", params := defArgs (top 26), body := defBody (top 26), scope := defScope (top 26) }

def d_3 : DefE := { at_ := .g "_law_same", name := "_law_same", qual := "_law_same", params := defArgs (top 27), body := defBody (top 27), scope := defScope (top 27) }

def d_4 : DefE := { at_ := .m "Net" "send", name := "send", qual := "Net.send", params := defArgs (inClass (top 24) 3), body := defBody (inClass (top 24) 3), scope := defScope (inClass (top 24) 3) }

def d_5 : DefE := { at_ := .m "Net" "at", name := "at", qual := "Net.at", params := defArgs (inClass (top 24) 5), body := defBody (inClass (top 24) 5), scope := defScope (inClass (top 24) 5) }

def d_6 : DefE := { at_ := .m "Net" "take_out", name := "take_out", qual := "Net.take_out", params := defArgs (inClass (top 24) 4), body := defBody (inClass (top 24) 4), scope := defScope (inClass (top 24) 4) }

def d_7 : DefE := { at_ := .g "_law_classes", name := "_law_classes", qual := "_law_classes", params := defArgs (top 28), body := defBody (top 28), scope := defScope (top 28) }

def d_8 : DefE := { at_ := .g "_law_refusal", name := "_law_refusal", qual := "_law_refusal", params := defArgs (top 29), body := defBody (top 29), scope := defScope (top 29) }

def d_9 : DefE := { at_ := .g "_law_done", name := "_law_done", qual := "_law_done", params := defArgs (top 30), body := defBody (top 30), scope := defScope (top 30) }

def d_10 : DefE := { at_ := .g "_law_due", name := "_law_due", qual := "_law_due", params := defArgs (top 31), body := defBody (top 31), scope := defScope (top 31) }

def d_11 : DefE := { at_ := .g "_law_seen", name := "_law_seen", qual := "_law_seen", params := defArgs (top 34), body := defBody (top 34), scope := defScope (top 34) }

def d_12 : DefE := { at_ := .g "_law_number", name := "_law_number", qual := "_law_number", params := defArgs (top 32), body := defBody (top 32), scope := defScope (top 32) }

def d_13 : DefE := { at_ := .g "_law_letter", name := "_law_letter", qual := "_law_letter", params := defArgs (top 33), body := defBody (top 33), scope := defScope (top 33) }

def d_14 : DefE := { at_ := .g "_law_deed", name := "_law_deed", qual := "_law_deed", params := defArgs (top 35), body := defBody (top 35), scope := defScope (top 35) }

def d_15 : DefE := { at_ := .g "law", name := "law", qual := "law", params := defArgs (top 36), body := defBody (top 36), scope := defScope (top 36) }

def d_16 : DefE := { at_ := .m "NoLetter" "__init__", name := "__init__", qual := "NoLetter.__init__", params := defArgs (inClass (top 13) 0), body := defBody (inClass (top 13) 0), scope := defScope (inClass (top 13) 0) }

def d_17 : DefE := { at_ := .m "Net" "__iter__", name := "__iter__", qual := "Net.__iter__", params := defArgs (inClass (top 24) 1), body := defBody (inClass (top 24) 1), scope := defScope (inClass (top 24) 1) }

def fn : List DefE := [d_0, d_1, d_2, d_3, d_4, d_5, d_6, d_7, d_8, d_9, d_10, d_11, d_12, d_13, d_14, d_15, d_16, d_17]

def fa : List Fc := [.a (.free "tuple"),
  .a (.free "int"),
  .a (.free "isinstance"),
  .a (.free "len"),
  .a (.free "range"),
  .a (.glo "_law_same"),
  .a (.free "all"),
  .a (.free "bool"),
  .a (.free "str"),
  .a (.int "MOST_LETTERS" 200),
  .a (.glo "OutOfRange"),
  .a (.glo "Unread"),
  .a (.glo "Unfit"),
  .a (.glo "NotAccepted"),
  .a (.glo "BadStart"),
  .a (.glo "BadSlips"),
  .a (.glo "TooHeavy"),
  .a (.glo "NotBest"),
  .a (.glo "NotOneChange"),
  .a (.glo "BadWord"),
  .a (.glo "Busy"),
  .a (.glo "NoLetter"),
  .a (.glo "Down"),
  .a (.glo "Up"),
  .a (.glo "NotSynced"),
  .a (.glo "BadEvent"),
  .a (.glo "NotAtRest"),
  .a (.glo "Warm"),
  .a (.glo "NothingToUndo"),
  .a (.glo "NothingToRedo"),
  .a (.glo "HeldError"),
  .a (.free "ValueError"),
  .a (.glo "_law_classes"),
  .a (.glo "_law_refusal"),
  .a (.glo "_law_draw"),
  .a (.glo "_law_number"),
  .a (.glo "_law_letter"),
  .a (.free "list"),
  .a (.free "max"),
  .a (.glo "_law_done"),
  .a (.glo "_law_due"),
  .a (.glo "_law_seen"),
  .a (.free "abs"),
  .a (.mkr "Net"),
  .a (.glo "Net"),
  .a (.glo "_law_deed"),
  .a (.cls "Net"),
  .a (.noat "Net" "_letters"),
  .a (.meth "Net" "at"),
  .a (.meth "Net" "send"),
  .a (.meth "Net" "take_out"),
  .prop "Net" "letters",
  .a (.glo "law"),
  .isx "NoLetter",
  .kitc "NoLetter" "BadEvent" false,
  .kitc "NoLetter" "BadSlips" false,
  .kitc "NoLetter" "BadStart" false,
  .kitc "NoLetter" "BadWord" false,
  .kitc "NoLetter" "Busy" false,
  .kitc "NoLetter" "Down" false,
  .kitc "NoLetter" "HeldError" true,
  .kitc "NoLetter" "NoLetter" true,
  .kitc "NoLetter" "NotAccepted" false,
  .kitc "NoLetter" "NotAtRest" false,
  .kitc "NoLetter" "NotBest" false,
  .kitc "NoLetter" "NotOneChange" false,
  .kitc "NoLetter" "NotSynced" false,
  .kitc "NoLetter" "NothingToRedo" false,
  .kitc "NoLetter" "NothingToUndo" false,
  .kitc "NoLetter" "OutOfRange" false,
  .kitc "NoLetter" "TooHeavy" false,
  .kitc "NoLetter" "Unfit" false,
  .kitc "NoLetter" "Unread" false,
  .kitc "NoLetter" "Up" false,
  .kitt "NoLetter" "ValueError" true,
  .kitc "NoLetter" "Warm" false,
  .a (.exm "NoLetter" "NoLetter" true),
  .xf "NoLetter",
  .a (.noat "NoLetter" "at"),
  .oex "NoLetter",
  .fn "NoLetter" "__init__",
  .a (.meth "Net" "__iter__"),
  .a (.free "iter")]

def xt_BadEvent (c : Nat) : Option Bool := match c with
  | 12 => some false
  | _ => none

theorem xt_BadEvent_ok {X : Cx} {mg : Str → Option Value} {h : Heap} (y : Yh fa fn X.K mg h) : ∀ c b, xt_BadEvent c = some b → ExcC X.K ((gg X.K).ca c) ∧ PySem.W.kitOne X.K (.ref ((gg X.K).ca c)) (.ref (He.ga X.K "BadEvent")) = some b := by
  intro c b hb
  unfold xt_BadEvent at hb
  split at hb
  · cases hb; exact ⟨isx_ok (y.c.fact 53), kitc_ok (y.c.fact 54)⟩
  · cases hb

def xt_BadSlips (c : Nat) : Option Bool := match c with
  | 12 => some false
  | _ => none

theorem xt_BadSlips_ok {X : Cx} {mg : Str → Option Value} {h : Heap} (y : Yh fa fn X.K mg h) : ∀ c b, xt_BadSlips c = some b → ExcC X.K ((gg X.K).ca c) ∧ PySem.W.kitOne X.K (.ref ((gg X.K).ca c)) (.ref (He.ga X.K "BadSlips")) = some b := by
  intro c b hb
  unfold xt_BadSlips at hb
  split at hb
  · cases hb; exact ⟨isx_ok (y.c.fact 53), kitc_ok (y.c.fact 55)⟩
  · cases hb

def xt_BadStart (c : Nat) : Option Bool := match c with
  | 12 => some false
  | _ => none

theorem xt_BadStart_ok {X : Cx} {mg : Str → Option Value} {h : Heap} (y : Yh fa fn X.K mg h) : ∀ c b, xt_BadStart c = some b → ExcC X.K ((gg X.K).ca c) ∧ PySem.W.kitOne X.K (.ref ((gg X.K).ca c)) (.ref (He.ga X.K "BadStart")) = some b := by
  intro c b hb
  unfold xt_BadStart at hb
  split at hb
  · cases hb; exact ⟨isx_ok (y.c.fact 53), kitc_ok (y.c.fact 56)⟩
  · cases hb

def xt_BadWord (c : Nat) : Option Bool := match c with
  | 12 => some false
  | _ => none

theorem xt_BadWord_ok {X : Cx} {mg : Str → Option Value} {h : Heap} (y : Yh fa fn X.K mg h) : ∀ c b, xt_BadWord c = some b → ExcC X.K ((gg X.K).ca c) ∧ PySem.W.kitOne X.K (.ref ((gg X.K).ca c)) (.ref (He.ga X.K "BadWord")) = some b := by
  intro c b hb
  unfold xt_BadWord at hb
  split at hb
  · cases hb; exact ⟨isx_ok (y.c.fact 53), kitc_ok (y.c.fact 57)⟩
  · cases hb

def xt_Busy (c : Nat) : Option Bool := match c with
  | 12 => some false
  | _ => none

theorem xt_Busy_ok {X : Cx} {mg : Str → Option Value} {h : Heap} (y : Yh fa fn X.K mg h) : ∀ c b, xt_Busy c = some b → ExcC X.K ((gg X.K).ca c) ∧ PySem.W.kitOne X.K (.ref ((gg X.K).ca c)) (.ref (He.ga X.K "Busy")) = some b := by
  intro c b hb
  unfold xt_Busy at hb
  split at hb
  · cases hb; exact ⟨isx_ok (y.c.fact 53), kitc_ok (y.c.fact 58)⟩
  · cases hb

def xt_Down (c : Nat) : Option Bool := match c with
  | 12 => some false
  | _ => none

theorem xt_Down_ok {X : Cx} {mg : Str → Option Value} {h : Heap} (y : Yh fa fn X.K mg h) : ∀ c b, xt_Down c = some b → ExcC X.K ((gg X.K).ca c) ∧ PySem.W.kitOne X.K (.ref ((gg X.K).ca c)) (.ref (He.ga X.K "Down")) = some b := by
  intro c b hb
  unfold xt_Down at hb
  split at hb
  · cases hb; exact ⟨isx_ok (y.c.fact 53), kitc_ok (y.c.fact 59)⟩
  · cases hb

def xt_HeldError (c : Nat) : Option Bool := match c with
  | 12 => some true
  | _ => none

theorem xt_HeldError_ok {X : Cx} {mg : Str → Option Value} {h : Heap} (y : Yh fa fn X.K mg h) : ∀ c b, xt_HeldError c = some b → ExcC X.K ((gg X.K).ca c) ∧ PySem.W.kitOne X.K (.ref ((gg X.K).ca c)) (.ref (He.ga X.K "HeldError")) = some b := by
  intro c b hb
  unfold xt_HeldError at hb
  split at hb
  · cases hb; exact ⟨isx_ok (y.c.fact 53), kitc_ok (y.c.fact 60)⟩
  · cases hb

def xt_NoLetter (c : Nat) : Option Bool := match c with
  | 12 => some true
  | _ => none

theorem xt_NoLetter_ok {X : Cx} {mg : Str → Option Value} {h : Heap} (y : Yh fa fn X.K mg h) : ∀ c b, xt_NoLetter c = some b → ExcC X.K ((gg X.K).ca c) ∧ PySem.W.kitOne X.K (.ref ((gg X.K).ca c)) (.ref (He.ga X.K "NoLetter")) = some b := by
  intro c b hb
  unfold xt_NoLetter at hb
  split at hb
  · cases hb; exact ⟨isx_ok (y.c.fact 53), kitc_ok (y.c.fact 61)⟩
  · cases hb

def xt_NotAccepted (c : Nat) : Option Bool := match c with
  | 12 => some false
  | _ => none

theorem xt_NotAccepted_ok {X : Cx} {mg : Str → Option Value} {h : Heap} (y : Yh fa fn X.K mg h) : ∀ c b, xt_NotAccepted c = some b → ExcC X.K ((gg X.K).ca c) ∧ PySem.W.kitOne X.K (.ref ((gg X.K).ca c)) (.ref (He.ga X.K "NotAccepted")) = some b := by
  intro c b hb
  unfold xt_NotAccepted at hb
  split at hb
  · cases hb; exact ⟨isx_ok (y.c.fact 53), kitc_ok (y.c.fact 62)⟩
  · cases hb

def xt_NotAtRest (c : Nat) : Option Bool := match c with
  | 12 => some false
  | _ => none

theorem xt_NotAtRest_ok {X : Cx} {mg : Str → Option Value} {h : Heap} (y : Yh fa fn X.K mg h) : ∀ c b, xt_NotAtRest c = some b → ExcC X.K ((gg X.K).ca c) ∧ PySem.W.kitOne X.K (.ref ((gg X.K).ca c)) (.ref (He.ga X.K "NotAtRest")) = some b := by
  intro c b hb
  unfold xt_NotAtRest at hb
  split at hb
  · cases hb; exact ⟨isx_ok (y.c.fact 53), kitc_ok (y.c.fact 63)⟩
  · cases hb

def xt_NotBest (c : Nat) : Option Bool := match c with
  | 12 => some false
  | _ => none

theorem xt_NotBest_ok {X : Cx} {mg : Str → Option Value} {h : Heap} (y : Yh fa fn X.K mg h) : ∀ c b, xt_NotBest c = some b → ExcC X.K ((gg X.K).ca c) ∧ PySem.W.kitOne X.K (.ref ((gg X.K).ca c)) (.ref (He.ga X.K "NotBest")) = some b := by
  intro c b hb
  unfold xt_NotBest at hb
  split at hb
  · cases hb; exact ⟨isx_ok (y.c.fact 53), kitc_ok (y.c.fact 64)⟩
  · cases hb

def xt_NotOneChange (c : Nat) : Option Bool := match c with
  | 12 => some false
  | _ => none

theorem xt_NotOneChange_ok {X : Cx} {mg : Str → Option Value} {h : Heap} (y : Yh fa fn X.K mg h) : ∀ c b, xt_NotOneChange c = some b → ExcC X.K ((gg X.K).ca c) ∧ PySem.W.kitOne X.K (.ref ((gg X.K).ca c)) (.ref (He.ga X.K "NotOneChange")) = some b := by
  intro c b hb
  unfold xt_NotOneChange at hb
  split at hb
  · cases hb; exact ⟨isx_ok (y.c.fact 53), kitc_ok (y.c.fact 65)⟩
  · cases hb

def xt_NotSynced (c : Nat) : Option Bool := match c with
  | 12 => some false
  | _ => none

theorem xt_NotSynced_ok {X : Cx} {mg : Str → Option Value} {h : Heap} (y : Yh fa fn X.K mg h) : ∀ c b, xt_NotSynced c = some b → ExcC X.K ((gg X.K).ca c) ∧ PySem.W.kitOne X.K (.ref ((gg X.K).ca c)) (.ref (He.ga X.K "NotSynced")) = some b := by
  intro c b hb
  unfold xt_NotSynced at hb
  split at hb
  · cases hb; exact ⟨isx_ok (y.c.fact 53), kitc_ok (y.c.fact 66)⟩
  · cases hb

def xt_NothingToRedo (c : Nat) : Option Bool := match c with
  | 12 => some false
  | _ => none

theorem xt_NothingToRedo_ok {X : Cx} {mg : Str → Option Value} {h : Heap} (y : Yh fa fn X.K mg h) : ∀ c b, xt_NothingToRedo c = some b → ExcC X.K ((gg X.K).ca c) ∧ PySem.W.kitOne X.K (.ref ((gg X.K).ca c)) (.ref (He.ga X.K "NothingToRedo")) = some b := by
  intro c b hb
  unfold xt_NothingToRedo at hb
  split at hb
  · cases hb; exact ⟨isx_ok (y.c.fact 53), kitc_ok (y.c.fact 67)⟩
  · cases hb

def xt_NothingToUndo (c : Nat) : Option Bool := match c with
  | 12 => some false
  | _ => none

theorem xt_NothingToUndo_ok {X : Cx} {mg : Str → Option Value} {h : Heap} (y : Yh fa fn X.K mg h) : ∀ c b, xt_NothingToUndo c = some b → ExcC X.K ((gg X.K).ca c) ∧ PySem.W.kitOne X.K (.ref ((gg X.K).ca c)) (.ref (He.ga X.K "NothingToUndo")) = some b := by
  intro c b hb
  unfold xt_NothingToUndo at hb
  split at hb
  · cases hb; exact ⟨isx_ok (y.c.fact 53), kitc_ok (y.c.fact 68)⟩
  · cases hb

def xt_OutOfRange (c : Nat) : Option Bool := match c with
  | 12 => some false
  | _ => none

theorem xt_OutOfRange_ok {X : Cx} {mg : Str → Option Value} {h : Heap} (y : Yh fa fn X.K mg h) : ∀ c b, xt_OutOfRange c = some b → ExcC X.K ((gg X.K).ca c) ∧ PySem.W.kitOne X.K (.ref ((gg X.K).ca c)) (.ref (He.ga X.K "OutOfRange")) = some b := by
  intro c b hb
  unfold xt_OutOfRange at hb
  split at hb
  · cases hb; exact ⟨isx_ok (y.c.fact 53), kitc_ok (y.c.fact 69)⟩
  · cases hb

def xt_TooHeavy (c : Nat) : Option Bool := match c with
  | 12 => some false
  | _ => none

theorem xt_TooHeavy_ok {X : Cx} {mg : Str → Option Value} {h : Heap} (y : Yh fa fn X.K mg h) : ∀ c b, xt_TooHeavy c = some b → ExcC X.K ((gg X.K).ca c) ∧ PySem.W.kitOne X.K (.ref ((gg X.K).ca c)) (.ref (He.ga X.K "TooHeavy")) = some b := by
  intro c b hb
  unfold xt_TooHeavy at hb
  split at hb
  · cases hb; exact ⟨isx_ok (y.c.fact 53), kitc_ok (y.c.fact 70)⟩
  · cases hb

def xt_Unfit (c : Nat) : Option Bool := match c with
  | 12 => some false
  | _ => none

theorem xt_Unfit_ok {X : Cx} {mg : Str → Option Value} {h : Heap} (y : Yh fa fn X.K mg h) : ∀ c b, xt_Unfit c = some b → ExcC X.K ((gg X.K).ca c) ∧ PySem.W.kitOne X.K (.ref ((gg X.K).ca c)) (.ref (He.ga X.K "Unfit")) = some b := by
  intro c b hb
  unfold xt_Unfit at hb
  split at hb
  · cases hb; exact ⟨isx_ok (y.c.fact 53), kitc_ok (y.c.fact 71)⟩
  · cases hb

def xt_Unread (c : Nat) : Option Bool := match c with
  | 12 => some false
  | _ => none

theorem xt_Unread_ok {X : Cx} {mg : Str → Option Value} {h : Heap} (y : Yh fa fn X.K mg h) : ∀ c b, xt_Unread c = some b → ExcC X.K ((gg X.K).ca c) ∧ PySem.W.kitOne X.K (.ref ((gg X.K).ca c)) (.ref (He.ga X.K "Unread")) = some b := by
  intro c b hb
  unfold xt_Unread at hb
  split at hb
  · cases hb; exact ⟨isx_ok (y.c.fact 53), kitc_ok (y.c.fact 72)⟩
  · cases hb

def xt_Up (c : Nat) : Option Bool := match c with
  | 12 => some false
  | _ => none

theorem xt_Up_ok {X : Cx} {mg : Str → Option Value} {h : Heap} (y : Yh fa fn X.K mg h) : ∀ c b, xt_Up c = some b → ExcC X.K ((gg X.K).ca c) ∧ PySem.W.kitOne X.K (.ref ((gg X.K).ca c)) (.ref (He.ga X.K "Up")) = some b := by
  intro c b hb
  unfold xt_Up at hb
  split at hb
  · cases hb; exact ⟨isx_ok (y.c.fact 53), kitc_ok (y.c.fact 73)⟩
  · cases hb

def xt_ValueError (c : Nat) : Option Bool := match c with
  | 12 => some true
  | _ => none

theorem xt_ValueError_ok {X : Cx} {mg : Str → Option Value} {h : Heap} (y : Yh fa fn X.K mg h) : ∀ c b, xt_ValueError c = some b → ExcC X.K ((gg X.K).ca c) ∧ PySem.W.kitOne X.K (.ref ((gg X.K).ca c)) (.type "ValueError") = some b := by
  intro c b hb
  unfold xt_ValueError at hb
  split at hb
  · cases hb; exact ⟨isx_ok (y.c.fact 53), kitt_ok (y.c.fact 74)⟩
  · cases hb

def xt_Warm (c : Nat) : Option Bool := match c with
  | 12 => some false
  | _ => none

theorem xt_Warm_ok {X : Cx} {mg : Str → Option Value} {h : Heap} (y : Yh fa fn X.K mg h) : ∀ c b, xt_Warm c = some b → ExcC X.K ((gg X.K).ca c) ∧ PySem.W.kitOne X.K (.ref ((gg X.K).ca c)) (.ref (He.ga X.K "Warm")) = some b := by
  intro c b hb
  unfold xt_Warm at hb
  split at hb
  · cases hb; exact ⟨isx_ok (y.c.fact 53), kitc_ok (y.c.fact 75)⟩
  · cases hb

def xc_NoLetter (c : Nat) : Option Bool := match c with
  | 12 => some true
  | _ => none

theorem xc_NoLetter_ok {K : PySem.W.Frag} {mg : Str → Option Value} {h : Heap} (y : Yh fa fn K mg h) : ∀ c b, xc_NoLetter c = some b → PySem.W.exmOne K (.ref ((gg K).ca c)) (.ref (He.ga K "NoLetter")) = some b := by
  intro c b hb
  unfold xc_NoLetter at hb
  split at hb
  · cases hb; exact y.exm 76
  · cases hb

def xo_at (c : Nat) : Bool := c == 12
theorem xo_at_ok {X : Cx} {mg : Str → Option Value} {h : Heap} (y : Yh fa fn X.K mg h) : ∀ c, xo_at c = true → XfC X.K ((gg X.K).ca c) ∧ PySem.W.findIn X.K (.ref ((gg X.K).ca c)) (Str.ofString "at") = some none := by
  intro c hc
  simp only [xo_at, Bool.or_eq_true, beq_iff_eq] at hc
  subst hc
  · exact ⟨xf_ok (y.c.fact 77), y.noat 78⟩

theorem sc_16 : FnScope ["self", "at"] ["self", "at"] (defScope (inClass (top 13) 0)) := ⟨rfl, rfl, rfl, by decide +kernel, rfl, by decide +kernel, by decide +kernel⟩
theorem ex_NoLetter {P : Program} {w : World} {K : PySem.W.Frag} {mg : Str → Option Value} {base h : Heap} (y : Yh fa fn K mg h) : ExcCls P w K mg base (He.ga K "NoLetter") "NoLetter" (spX1 (He.ga K "NoLetter") (Str.ofString "at")) := by
  obtain ⟨fd, F⟩ := y.c.def_ 16
  exact exc_cls (y.glo 21) (y.c.fact 79) (y.c.fact 80) (init_1 F sc_16 (oex_ok (y.c.fact 79)) (y.noat 78) (.inl rfl) (.inl rfl)) (F.bindsN fun _ _ _ _ _ _ us hl => match us, hl with | [_, _], _ => rfl)

def it_letters (c : Nat) : Bool := c == 21
theorem sc_17 : FnScope ["self"] ["self"] (defScope (inClass (top 24) 1)) := ⟨rfl, rfl, rfl, by decide +kernel, rfl, by decide +kernel, by decide +kernel⟩
theorem iter_net {X : Cx} {h : Heap} (y : Yh fa fn X.K X.mg h) : IterOk X (gg X.K) it_letters "_letters" := by
  refine ⟨fun c hc => ?_⟩
  simp only [it_letters, beq_iff_eq] at hc
  subst hc
  obtain ⟨fd, F⟩ := y.c.def_ 17
  have m := y.meth 81
  exact ⟨y.cls 46, y.noat 47, _, fd, m.at_, m.fn, F.bindsN fun _ _ _ _ _ _ us hl => match us, hl with | [_], _ => rfl, iter_ok F sc_17 (.inl rfl) (y.free 82) rfl⟩

def fld__letters (c : Nat) : Bool := c == 21
theorem fld__letters_ok {X : Cx} {mg : Str → Option Value} {h : Heap} (y : Yh fa fn X.K mg h) : FldOk X (gg X.K) fld__letters "_letters" := by
  intro c hc
  simp only [fld__letters, Bool.or_eq_true, beq_iff_eq] at hc
  subst hc
  · exact ⟨y.cls 46, y.noat 47⟩





def fld_letters (c : Nat) : Bool := false
theorem fld_letters_ok {X : Cx} {mg : Str → Option Value} {h : Heap} (y : Yh fa fn X.K mg h) : FldOk X (gg X.K) fld_letters "letters" := by
  intro c hc
  cases hc


noncomputable def f_Net___init__ : FF := mkFF 1 1 (sFldW fld__letters "_letters" (eAl (lLst aNil)) (eVar 0))

noncomputable def f_Net_letters : FF := mkFF 1 1 (sRet (eUn gTup (eFld fld__letters "_letters" (eVar 0))))

noncomputable def f__law_draw : FF := mkFF 3 2 (bSeq (sIf (tOf (eBin gEq (eVar 0) (eIm (lLst aNil)))) (sRet (eC (.int 0))) (bNil)) (bSeq (sSet 2 (eM1 gPopAt (eVar 0) (eC (.int 0)))) (bSeq (sIf (tOf (eBin gGt (eBin gDiv (eVar 2) (eVar 1)) (eC (.int 0)))) (sExp (eM2 gIns (eVar 0) (eC (.int 0)) (eBin gDiv (eVar 2) (eVar 1)))) (bNil)) (sRet (eBin gMod (eUn gInt (eVar 2)) (eVar 1))))))

noncomputable def f__law_same : Nat → FF
  | 0 => fun _ _ => .bad
  | n + 1 => mkFF 3 2 (bSeq (sIf (tOf (eBin gIsN (eVar 1) (eC .non))) (sRet (eBin gIsN (eVar 0) (eC .non))) (bNil)) (bSeq (sIf (tOf (eIsT "tuple" (eVar 1))) (bSeq (sIf (tOr2 (tNot1 (tOf (eIsT "tuple" (eVar 0)))) (tOf (eBin gNe (eUn gLen (eVar 0)) (eUn gLen (eVar 1))))) (sRet (eC (.bl false))) (bNil)) (sRet (eUn (gBls fun l => l.all fun b => b) (eIm (lComp (iRan1 (eUn gLen (eVar 1))) [2] (gN 2) (tYesE) (eCall (f__law_same n) [] (aCons (eBin gIx (eVar 0) (eVar 2)) (aCons (eBin gIx (eVar 1) (eVar 2)) (aNil))))))))) (bNil)) (bSeq (sIf (tOf (eIsT "bool" (eVar 1))) (sRet (eAnd (eIsT "bool" (eVar 0)) (eBin gEq (eVar 0) (eVar 1)))) (bNil)) (bSeq (sIf (tOf (eIsT "int" (eVar 1))) (sRet (eAnd (eIsT "int" (eVar 0)) (eAnd (eNot (eIsT "bool" (eVar 0))) (eBin gEq (eVar 0) (eVar 1))))) (bNil)) (sRet (eAnd (eIsT "str" (eVar 0)) (eBin gEq (eVar 0) (eVar 1))))))))

noncomputable def f_Net_send : FF := mkFF 2 2 (bSeq (sIf (tOf (eBin gGe (eUn gLen (eFld fld__letters "_letters" (eVar 0))) (eC (.int 200)))) (sRet (eC (.bl false))) (bNil)) (bSeq (sExp (eM1 gApp (eFld fld__letters "_letters" (eVar 0)) (eUn gTup (eVar 1)))) (sRet (eC (.bl true)))))

noncomputable def f_Net_at : FF := mkFF 2 2 (bSeq (sIf (tOr2 (tOf (eBin gLt (eVar 1) (eC (.int 0)))) (tOf (eBin gGe (eVar 1) (eUn gLen (eFld fld__letters "_letters" (eVar 0)))))) (sRaise1 12 "at" (eVar 1)) (bNil)) (sRet (eBin gIx (eFld fld__letters "_letters" (eVar 0)) (eVar 1))))

noncomputable def mt_at (c : Nat) : Option FF := match c with
  | 21 => some f_Net_at
  | _ => none

noncomputable def f_Net_take_out : FF := mkFF 3 2 (bSeq (sSet 2 (eMeth mt_at "at" (eVar 0) (aCons (eVar 1) (aNil)))) (bSeq (sDel (eFld fld__letters "_letters" (eVar 0)) (eVar 1)) (sRet (eVar 2))))

noncomputable def f__law_classes : FFX := mkFX 2 1 (bSeq (sSet 1 (eIm (lLst (aCons (eIsX 0 xt_OutOfRange) (aCons (eIsX 0 xt_Unread) (aCons (eIsX 0 xt_Unfit) (aNil))))))) (bSeq (sSet 1 (eIm (lBin gCat (eVar 1) (eIm (lLst (aCons (eIsX 0 xt_NotAccepted) (aCons (eIsX 0 xt_BadStart) (aNil)))))))) (bSeq (sSet 1 (eIm (lBin gCat (eVar 1) (eIm (lLst (aCons (eIsX 0 xt_BadSlips) (aCons (eIsX 0 xt_TooHeavy) (aNil)))))))) (bSeq (sSet 1 (eIm (lBin gCat (eVar 1) (eIm (lLst (aCons (eIsX 0 xt_NotBest) (aCons (eIsX 0 xt_NotOneChange) (aNil)))))))) (bSeq (sSet 1 (eIm (lBin gCat (eVar 1) (eIm (lLst (aCons (eIsX 0 xt_BadWord) (aCons (eIsX 0 xt_Busy) (aNil)))))))) (bSeq (sSet 1 (eIm (lBin gCat (eVar 1) (eIm (lLst (aCons (eIsX 0 xt_NoLetter) (aCons (eIsX 0 xt_Down) (aCons (eIsX 0 xt_Up) (aNil))))))))) (bSeq (sSet 1 (eIm (lBin gCat (eVar 1) (eIm (lLst (aCons (eIsX 0 xt_NotSynced) (aCons (eIsX 0 xt_BadEvent) (aNil)))))))) (bSeq (sSet 1 (eIm (lBin gCat (eVar 1) (eIm (lLst (aCons (eIsX 0 xt_NotAtRest) (aCons (eIsX 0 xt_Warm) (aNil)))))))) (bSeq (sSet 1 (eIm (lBin gCat (eVar 1) (eIm (lLst (aCons (eIsX 0 xt_NothingToUndo) (aCons (eIsX 0 xt_NothingToRedo) (aNil)))))))) (sRet (eM1 gCnt (eVar 1) (eC (.bl true)))))))))))))

noncomputable def f__law_refusal : FFX := mkFX 2 2 (bSeq (sIf (tOr2 (tNot1 (tOf (eIsX 0 xt_HeldError))) (tNot1 (tOf (eIsX 0 xt_ValueError)))) (sRet (eTup (aCons (eC (.str (cs "another"))) (aNil)))) (bNil)) (bSeq (sIf (tOf (eBin gNe (eCallX 0 f__law_classes (aNil)) (eC (.int 1)))) (sRet (eTup (aCons (eC (.str (cs "another"))) (aNil)))) (bNil)) (sRet (eVar 1))))

noncomputable def mt_send (c : Nat) : Option FF := match c with
  | 21 => some f_Net_send
  | _ => none

noncomputable def mt_take_out (c : Nat) : Option FF := match c with
  | 21 => some f_Net_take_out
  | _ => none

noncomputable def f__law_done : FF := mkFF 5 4 (sTry (bSeq (sIf (tOf (eBin gEq (eVar 1) (eC (.str (cs "send"))))) (sRet (eTup (aCons (eC (.str (cs "done"))) (aCons (eMeth mt_send "send" (eVar 0) (aCons (eVar 3) (aNil))) (aNil))))) (bNil)) (bSeq (sIf (tOf (eBin gEq (eVar 1) (eC (.str (cs "take"))))) (sRet (eTup (aCons (eC (.str (cs "done"))) (aCons (eMeth mt_take_out "take_out" (eVar 0) (aCons (eVar 2) (aNil))) (aNil))))) (bNil)) (sRet (eTup (aCons (eC (.str (cs "done"))) (aCons (eMeth mt_at "at" (eVar 0) (aCons (eVar 2) (aNil))) (aNil))))))) [⟨xc_NoLetter, some 4, sRet (eCallX 4 f__law_refusal (aCons (eTup (aCons (eC (.str (cs "NoLetter"))) (aCons (eXf 4 xo_at "at") (aNil)))) (aNil)))⟩])

noncomputable def f__law_due : FF := mkFF 4 4 (bSeq (sIf (tOf (eBin gEq (eVar 1) (eC (.str (cs "send"))))) (bSeq (sIf (tOf (eBin gGe (eUn gLen (eVar 0)) (eC (.int 200)))) (sRet (eTup (aCons (eC (.str (cs "done"))) (aCons (eC (.bl false)) (aNil))))) (bNil)) (bSeq (sExp (eM1 gApp (eVar 0) (eVar 3))) (sRet (eTup (aCons (eC (.str (cs "done"))) (aCons (eC (.bl true)) (aNil))))))) (bNil)) (bSeq (sIf (tOr2 (tOf (eBin gLt (eVar 2) (eC (.int 0)))) (tOf (eBin gGe (eVar 2) (eUn gLen (eVar 0))))) (sRet (eTup (aCons (eC (.str (cs "NoLetter"))) (aCons (eVar 2) (aNil))))) (bNil)) (bSeq (sIf (tOf (eBin gEq (eVar 1) (eC (.str (cs "take"))))) (sRet (eTup (aCons (eC (.str (cs "done"))) (aCons (eM1 gPopAt (eVar 0) (eVar 2)) (aNil))))) (bNil)) (sRet (eTup (aCons (eC (.str (cs "done"))) (aCons (eBin gIx (eVar 0) (eVar 2)) (aNil))))))))

noncomputable def prp_letters (c : Nat) : Option FF := match c with
  | 21 => some f_Net_letters
  | _ => none

noncomputable def f__law_seen : FF := mkFF 6 2 (bSeq (sFor (iRan1 (eC (.int 2))) (gN 2) (bSeq (sSet 3 (eBin gIx (eVar 0) (eVar 2))) (bSeq (sSet 4 (eIm (lComp (iOwn it_letters "_letters" (eVar 3)) [5] (gN 5) (tYesE) (eVar 5)))) (sIf (tOr2 (tOf (eBin gNe (eVar 4) (eBin gIx (eVar 1) (eVar 2)))) (tOf (eBin gNe (ePrp fld_letters prp_letters "letters" (eVar 3)) (eUn gTup (eBin gIx (eVar 1) (eVar 2)))))) (sRet (eC (.bl false))) (bNil))))) (sRet (eC (.bl true))))

noncomputable def f__law_number : FF := mkFF 3 2 (bSeq (sSet 2 (eCall f__law_draw [] (aCons (eVar 0) (aCons (eC (.int 5)) (aNil))))) (bSeq (sIf (tOf (eBin gLt (eVar 2) (eC (.int 2)))) (sRet (eBin gMod (eUn gInt (eCall f__law_draw [] (aCons (eVar 0) (aCons (eC (.int 10)) (aNil))))) (eBin gAdd (eVar 1) (eC (.int 1))))) (bNil)) (bSeq (sIf (tOf (eBin gEq (eVar 2) (eC (.int 2)))) (sRet (eCall f__law_draw [] (aCons (eVar 0) (aCons (eBin gAdd (eVar 1) (eC (.int 1))) (aNil))))) (bNil)) (sRet (eBin gSub (eBin gAdd (eVar 1) (eC (.int 3))) (eVar 2))))))

noncomputable def f__law_letter : FF := mkFF 6 1 (bSeq (sSet 1 (eCall f__law_number [] (aCons (eVar 0) (aCons (eC (.int 999)) (aNil))))) (bSeq (sSet 2 (eCall f__law_number [] (aCons (eVar 0) (aCons (eC (.int 29)) (aNil))))) (bSeq (sSet 3 (eCall f__law_number [] (aCons (eVar 0) (aCons (eC (.int 5)) (aNil))))) (bSeq (sSet 4 (eCall f__law_number [] (aCons (eVar 0) (aCons (eC (.int 9999)) (aNil))))) (bSeq (sIf (tOf (eBin gEq (eCall f__law_draw [] (aCons (eVar 0) (aCons (eC (.int 2)) (aNil)))) (eC (.int 0)))) (sRet (eTup (aCons (eC (.str (cs "bid"))) (aCons (eVar 1) (aCons (eVar 2) (aCons (eVar 3) (aCons (eVar 4) (aNil)))))))) (bNil)) (bSeq (sSet 5 (eUn gNeg (eC (.int 1)))) (bSeq (sIf (tOf (eBin gEq (eCall f__law_draw [] (aCons (eVar 0) (aCons (eC (.int 2)) (aNil)))) (eC (.int 1)))) (sSet 5 (eCall f__law_number [] (aCons (eVar 0) (aCons (eC (.int 9999)) (aNil))))) (bNil)) (sRet (eTup (aCons (eC (.str (cs "told"))) (aCons (eVar 1) (aCons (eVar 3) (aCons (eVar 2) (aCons (eCall f__law_number [] (aCons (eVar 0) (aCons (eC (.int 99999)) (aNil)))) (aCons (eVar 4) (aCons (eVar 5) (aNil)))))))))))))))))

noncomputable def f__law_deed : FF := mkFF 12 5 (bSeq (sSet 5 (eBin gMod (eUn gInt (eBin gAdd (eBin gDiv (eVar 4) (eC (.int 7))) (eCall f__law_draw [] (aCons (eVar 0) (aCons (eC (.int 2)) (aNil)))))) (eC (.int 2)))) (bSeq (sSet 6 (eTup (aCons (eC (.str (cs "bid"))) (aCons (eC (.int 0)) (aCons (eC (.int 0)) (aCons (eC (.int 0)) (aCons (eC (.int 0)) (aNil)))))))) (bSeq (sIf (tOf (eBin gEq (eVar 3) (eC (.str (cs "send"))))) (sSet 6 (eCall f__law_letter [] (aCons (eVar 0) (aNil)))) (bNil)) (bSeq (sSet 7 (eVar 6)) (bSeq (sIf (tOf (eBin gEq (eCall f__law_draw [] (aCons (eVar 0) (aCons (eC (.int 2)) (aNil)))) (eC (.int 0)))) (sSet 7 (eAl (lUn gSeqL (eVar 6)))) (bNil)) (bSeq (sSet 8 (eUn gLen (eBin gIx (eVar 2) (eVar 5)))) (bSeq (sSet 9 (eCall f__law_draw [] (aCons (eVar 0) (aCons (eBin gMax2 (eC (.int 1)) (eVar 8)) (aNil))))) (bSeq (sSet 10 (eCall f__law_draw [] (aCons (eVar 0) (aCons (eC (.int 6)) (aNil))))) (bSeq (sIf (tOf (eBin gEq (eVar 10) (eC (.int 4)))) (sSet 9 (eBin gAdd (eVar 8) (eCall f__law_draw [] (aCons (eVar 0) (aCons (eC (.int 10)) (aNil)))))) (bNil)) (bSeq (sIf (tOf (eBin gEq (eVar 10) (eC (.int 5)))) (sSet 9 (eBin gSub (eBin gSub (eC (.int 0)) (eC (.int 1))) (eCall f__law_draw [] (aCons (eVar 0) (aCons (eC (.int 9)) (aNil)))))) (bNil)) (bSeq (sSet 11 (eCall f__law_done [] (aCons (eBin gIx (eVar 1) (eVar 5)) (aCons (eVar 3) (aCons (eVar 9) (aCons (eVar 7) (aNil))))))) (bSeq (sIf (tNot1 (tOf (eCall (f__law_same 8) [] (aCons (eVar 11) (aCons (eCall f__law_due [] (aCons (eBin gIx (eVar 2) (eVar 5)) (aCons (eVar 3) (aCons (eVar 9) (aCons (eVar 6) (aNil)))))) (aNil)))))) (sRet (eC (.bl false))) (bNil)) (bSeq (sIf (tOf (eIsT "list" (eVar 7))) (bSeq (sIf (tOf (eBin gNe (eVar 7) (eIm (lUn gSeqL (eVar 6))))) (sRet (eC (.bl false))) (bNil)) (bSeq (sAsg (eBin gAdd (eBin gIx (eVar 7) (eC (.int 1))) (eC (.int 1))) (gSet (eVar 7) (eC (.int 1)))) (sExp (eM1 gApp (eVar 7) (eC (.int 0)))))) (bNil)) (sRet (eCall f__law_seen [] (aCons (eVar 1) (aCons (eVar 2) (aNil))))))))))))))))))

noncomputable def f_law : FF := mkFF 13 1 (bSeq (sSet 1 (eAl (lComp (iSeq (eIm (lCut (eVar 0) (oNone) (oSome (eC (.int 63)))))) [12] (gN 12) (tYesE) (eUn gAbs (eVar 12))))) (bSeq (sSet 2 (eCall f__law_draw [] (aCons (eVar 1) (aCons (eC (.int 4)) (aNil))))) (bSeq (sSet 3 (eBin gMod (eUn gInt (eBin gAdd (eC (.int 3)) (eCall f__law_draw [] (aCons (eVar 1) (aCons (eC (.int 9)) (aNil)))))) (eC (.int 9)))) (bSeq (sIf (tOf (eBin gEq (eVar 2) (eC (.int 3)))) (sSet 3 (eBin gAdd (eC (.int 197)) (eBin gMod (eUn gInt (eVar 3)) (eC (.int 4))))) (bNil)) (bSeq (sSet 4 (eIm (lLst (aCons (eNew 21 f_Net___init__ [] aNil) (aCons (eNew 21 f_Net___init__ [] aNil) (aNil)))))) (bSeq (sSet 5 (eIm (lLst (aCons (eAl (lLst aNil)) (aCons (eAl (lLst aNil)) (aNil)))))) (bSeq (sIf (tNot1 (tOf (eCall f__law_seen [] (aCons (eVar 4) (aCons (eVar 5) (aNil)))))) (sRet (eC (.bl false))) (bNil)) (bSeq (sFor (iRan1 (eVar 3)) (gN 6) (bSeq (sSet 7 (eTup (aCons (eC (.str (cs "bid"))) (aCons (eVar 6) (aCons (eBin gMod (eUn gInt (eVar 6)) (eC (.int 30))) (aCons (eBin gMod (eUn gInt (eVar 6)) (eC (.int 6))) (aCons (eBin gMul (eC (.int 7)) (eVar 6)) (aNil)))))))) (bSeq (sIf (tOf (eBin gEq (eBin gMod (eUn gInt (eVar 6)) (eC (.int 3))) (eC (.int 1)))) (sSet 7 (eTup (aCons (eC (.str (cs "told"))) (aCons (eVar 6) (aCons (eBin gMod (eUn gInt (eVar 6)) (eC (.int 6))) (aCons (eBin gMod (eUn gInt (eVar 6)) (eC (.int 30))) (aCons (eBin gMul (eC (.int 11)) (eVar 6)) (aCons (eVar 6) (aCons (eBin gSub (eVar 6) (eC (.int 1))) (aNil)))))))))) (bNil)) (bSeq (sSet 8 (eCall f__law_done [] (aCons (eBin gIx (eVar 4) (eC (.int 0))) (aCons (eC (.str (cs "send"))) (aCons (eC (.int 0)) (aCons (eVar 7) (aNil))))))) (sIf (tNot1 (tOf (eCall (f__law_same 8) [] (aCons (eVar 8) (aCons (eCall f__law_due [] (aCons (eBin gIx (eVar 5) (eC (.int 0))) (aCons (eC (.str (cs "send"))) (aCons (eC (.int 0)) (aCons (eVar 7) (aNil)))))) (aNil)))))) (sRet (eC (.bl false))) (bNil)))))) (bSeq (sFor (iRan1 (eC (.int 14))) (gN 6) (bSeq (sSet 9 (eBin gMod (eUn gInt (eBin gAdd (eVar 6) (eCall f__law_draw [] (aCons (eVar 1) (aCons (eC (.int 5)) (aNil)))))) (eC (.int 5)))) (bSeq (sSet 10 (eBin gIx (eIm (lLst (aCons (eC (.str (cs "send"))) (aCons (eC (.str (cs "take"))) (aCons (eC (.str (cs "at"))) (aCons (eC (.str (cs "send"))) (aCons (eC (.str (cs "take"))) (aNil)))))))) (eVar 9))) (bSeq (sIf (tAnd2 (tOf (eBin gEq (eVar 2) (eC (.int 3)))) (tOf (eBin gLt (eVar 6) (eC (.int 5))))) (sSet 10 (eC (.str (cs "send")))) (bNil)) (sIf (tNot1 (tOf (eCall f__law_deed [] (aCons (eVar 1) (aCons (eVar 4) (aCons (eVar 5) (aCons (eVar 10) (aCons (eVar 6) (aNil))))))))) (sRet (eC (.bl false))) (bNil)))))) (bSeq (sFor (iRan1 (eC (.int 2))) (gN 6) (bSeq (sIf (tNot1 (tOf (eCall (f__law_same 8) [] (aCons (ePrp fld_letters prp_letters "letters" (eBin gIx (eVar 4) (eVar 6))) (aCons (eUn gTup (eBin gIx (eVar 5) (eVar 6))) (aNil)))))) (sRet (eC (.bl false))) (bNil)) (bSeq (sSet 11 (eUn gLen (eBin gIx (eVar 5) (eVar 6)))) (sFor (iSeq (eIm (lLst (aCons (eC (.str (cs "take"))) (aCons (eC (.str (cs "at"))) (aNil)))))) (gN 10) (sIf (tNot1 (tOf (eCall (f__law_same 8) [] (aCons (eCall f__law_done [] (aCons (eBin gIx (eVar 4) (eVar 6)) (aCons (eVar 10) (aCons (eVar 11) (aCons (eTup (aNil)) (aNil)))))) (aCons (eTup (aCons (eC (.str (cs "NoLetter"))) (aCons (eVar 11) (aNil)))) (aNil)))))) (sRet (eC (.bl false))) (bNil)))))) (sRet (eCall f__law_seen [] (aCons (eVar 4) (aCons (eVar 5) (aNil)))))))))))))))

theorem sc_0 : FnScope ["self"] ["self"] (defScope (inClass (top 24) 0)) := ⟨rfl, rfl, rfl, by decide +kernel, rfl, by decide +kernel, by decide +kernel⟩
theorem ok_Net___init__ {P : Program} {w : World} {K : PySem.W.Frag} {mg : Str → Option Value} {base h : Heap} (y : Yh fa fn K mg h) : FnP P w K mg base (gg K) 1 f_Net___init__ [] (He.ma K (He.ga K "Net") "__init__") := by
  obtain ⟨fd, F⟩ := y.c.def_ 0
  have sc := sc_0
  exact fnP_ok F sc (F.bindsN fun _ _ _ _ _ _ us hl => match us, hl with | [_], _ => rfl) fun cdv A outer s H E hr tk hp => dss_one (ds_fld (fld__letters_ok y) (dv 0) (de_al (dl_lst da_nil)))
theorem ok_Net___init___k {K : PySem.W.Frag} {mg : Str → Option Value} {h : Heap} (y : Yh fa fn K mg h) : PySem.W.keepIn K (.ref (He.ma K (He.ga K "Net") "__init__")) = true := by
  obtain ⟨fd, F⟩ := y.c.def_ 0
  exact F.kp

theorem sc_1 : FnScope ["self"] ["self"] (defScope (inClass (top 24) 2)) := ⟨rfl, rfl, rfl, by decide +kernel, rfl, by decide +kernel, by decide +kernel⟩
theorem ok_Net_letters {P : Program} {w : World} {K : PySem.W.Frag} {mg : Str → Option Value} {base h : Heap} (y : Yh fa fn K mg h) : FnP P w K mg base (gg K) 1 f_Net_letters [] (Pa.ad K (.p "Net" "letters")) := by
  obtain ⟨fd, F⟩ := y.c.def_ 1
  have sc := sc_1
  exact fnP_ok F sc (F.bindsN fun _ _ _ _ _ _ us hl => match us, hl with | [_], _ => rfl) fun cdv A outer s H E hr tk hp => dss_one (ds_ret (de_tuple rfl rfl (y.free 0) (de_fld (fld__letters_ok y) (dv 0))))
theorem ok_Net_letters_k {K : PySem.W.Frag} {mg : Str → Option Value} {h : Heap} (y : Yh fa fn K mg h) : PySem.W.keepIn K (.ref (Pa.ad K (.p "Net" "letters"))) = true := by
  obtain ⟨fd, F⟩ := y.c.def_ 1
  exact F.kp

theorem sc_2 : FnScope ["_law_pool", "_law_many", "_law_cell"] ["_law_pool", "_law_many"] (defScope (top 26)) := ⟨rfl, rfl, rfl, by decide +kernel, rfl, by decide +kernel, by decide +kernel⟩
theorem ok__law_draw {P : Program} {w : World} {K : PySem.W.Frag} {mg : Str → Option Value} {base h : Heap} (y : Yh fa fn K mg h) : FnP P w K mg base (gg K) 1 f__law_draw [] (He.ga K "_law_draw") := by
  obtain ⟨fd, F⟩ := y.c.def_ 2
  have sc := sc_2
  exact fnP_ok F sc (F.bindsN fun _ _ _ _ _ _ us hl => match us, hl with | [_, _], _ => rfl) fun cdv A outer s H E hr tk hp => dss_cons (ds_if (dt_eq rfl (hu64 hr) (dv 0) (de_im (dl_lst da_nil))) (dss_one (ds_ret (de_int))) (dss_nil)) (dss_cons (ds_set (i := 2) sc.nd rfl (by first | exact .inl rfl | exact .inr rfl) (de_popAt rfl (dv 0) (de_int))) (dss_cons (ds_if (dt_gt (de_div (dv 2) (dv 1)) (de_int)) (dss_one (ds_exp (de_insert rfl (dv 0) (de_int) (de_div (dv 2) (dv 1))))) (dss_nil)) (dss_one (ds_ret (de_mod (de_int1 rfl (y.free 1) (dv 2)) (dv 1))))))
theorem ok__law_draw_k {K : PySem.W.Frag} {mg : Str → Option Value} {h : Heap} (y : Yh fa fn K mg h) : PySem.W.keepIn K (.ref (He.ga K "_law_draw")) = true := by
  obtain ⟨fd, F⟩ := y.c.def_ 2
  exact F.kp

theorem sc_3 : FnScope ["_law_told", "_law_due_here", "_law_k"] ["_law_told", "_law_due_here"] (defScope (top 27)) := ⟨rfl, rfl, rfl, by decide +kernel, rfl, by decide +kernel, by decide +kernel⟩
theorem ok__law_same_k {K : PySem.W.Frag} {mg : Str → Option Value} {h : Heap} (y : Yh fa fn K mg h) : PySem.W.keepIn K (.ref (He.ga K "_law_same")) = true := by
  obtain ⟨fd, F⟩ := y.c.def_ 3
  exact F.kp
theorem ok__law_same {P : Program} {w : World} {K : PySem.W.Frag} {mg : Str → Option Value} {base h : Heap} (y : Yh fa fn K mg h) : ∀ n : Nat, FnP P w K mg base (gg K) (1 + n) (f__law_same n) [] (He.ga K "_law_same")
  | 0 => by
    obtain ⟨fd, F⟩ := y.c.def_ 3
    exact fnP_bad (ps := ["_law_told", "_law_due_here"]) (F.bindsN fun _ _ _ _ _ _ us hl => match us, hl with | [_, _], _ => rfl)
  | n + 1 => by
    obtain ⟨fd, F⟩ := y.c.def_ 3
    have sc := sc_3
    have ih := ok__law_same (P := P) (w := w) (base := base) y n
    exact fnP_ok F sc (F.bindsN fun _ _ _ _ _ _ us hl => match us, hl with | [_, _], _ => rfl) fun cdv A outer s H E hr tk hp => dss_cons (ds_if (dt_is (dv 1) (de_non)) (dss_one (ds_ret (de_is (dv 0) (de_non)))) (dss_nil)) (dss_cons (ds_if (dt_val (de_isT (T := "tuple") rfl (by decide) rfl (y.free 2) rfl (y.free 0) rfl (dv 1))) (dss_cons (ds_if (dt_w (dw_or (dt_not (dt_val (de_isT (T := "tuple") rfl (by decide) rfl (y.free 2) rfl (y.free 0) rfl (dv 0)))) (dw_or1 (dt_ne rfl (hu64 hr) (de_len rfl rfl (y.free 3) (dv 0)) (de_len rfl rfl (y.free 3) (dv 1)))))) (dss_one (ds_ret (de_bl))) (dss_nil)) (dss_one (ds_ret (de_all rfl rfl rfl (y.free 6) (de_im (dl_comp (own := [("_law_k", 2)]) rfl sc.nd (di_range1 rfl (y.free 4) (de_len rfl rfl (y.free 3) (dv 1))) (blkOk_by rfl) (fun _ _ _ _ _ => ⟨gn 2 sc.nd, dts_nil, de_call (ih) (y.glo 5) (ok__law_same_k y) hr tkF rfl (da_cons (de_ix rfl (dv 0) (dv 2)) (da_cons (de_ix rfl (dv 1) (dv 2)) (da_nil)))⟩))))))) (dss_nil)) (dss_cons (ds_if (dt_val (de_isT (T := "bool") rfl (by decide) rfl (y.free 2) rfl (y.free 7) rfl (dv 1))) (dss_one (ds_ret (de_and (de_isT (T := "bool") rfl (by decide) rfl (y.free 2) rfl (y.free 7) rfl (dv 0)) (de_one (de_eq rfl (hu64 hr) (dv 0) (dv 1)))))) (dss_nil)) (dss_cons (ds_if (dt_val (de_isT (T := "int") rfl (by decide) rfl (y.free 2) rfl (y.free 1) rfl (dv 1))) (dss_one (ds_ret (de_and (de_isT (T := "int") rfl (by decide) rfl (y.free 2) rfl (y.free 1) rfl (dv 0)) (de_and (de_not (de_isT (T := "bool") rfl (by decide) rfl (y.free 2) rfl (y.free 7) rfl (dv 0))) (de_one (de_eq rfl (hu64 hr) (dv 0) (dv 1))))))) (dss_nil)) (dss_one (ds_ret (de_and (de_isT (T := "str") rfl (by decide) rfl (y.free 2) rfl (y.free 8) rfl (dv 0)) (de_one (de_eq rfl (hu64 hr) (dv 0) (dv 1)))))))))

theorem sc_4 : FnScope ["self", "letter"] ["self", "letter"] (defScope (inClass (top 24) 3)) := ⟨rfl, rfl, rfl, by decide +kernel, rfl, by decide +kernel, by decide +kernel⟩
theorem ok_Net_send {P : Program} {w : World} {K : PySem.W.Frag} {mg : Str → Option Value} {base h : Heap} (y : Yh fa fn K mg h) : FnP P w K mg base (gg K) 1 f_Net_send [] (He.ma K (He.ga K "Net") "send") := by
  obtain ⟨fd, F⟩ := y.c.def_ 4
  have sc := sc_4
  exact fnP_ok F sc (F.bindsN fun _ _ _ _ _ _ us hl => match us, hl with | [_, _], _ => rfl) fun cdv A outer s H E hr tk hp => dss_cons (ds_if (dt_ge (de_len rfl rfl (y.free 3) (de_fld (fld__letters_ok y) (dv 0))) (de_glob rfl (y.int 9) (fun _ _ => rwI))) (dss_one (ds_ret (de_bl))) (dss_nil)) (dss_cons (ds_exp (de_append rfl (de_fld (fld__letters_ok y) (dv 0)) (de_tuple rfl rfl (y.free 0) (dv 1)))) (dss_one (ds_ret (de_bl))))
theorem ok_Net_send_k {K : PySem.W.Frag} {mg : Str → Option Value} {h : Heap} (y : Yh fa fn K mg h) : PySem.W.keepIn K (.ref (He.ma K (He.ga K "Net") "send")) = true := by
  obtain ⟨fd, F⟩ := y.c.def_ 4
  exact F.kp

theorem sc_5 : FnScope ["self", "at"] ["self", "at"] (defScope (inClass (top 24) 5)) := ⟨rfl, rfl, rfl, by decide +kernel, rfl, by decide +kernel, by decide +kernel⟩
theorem ok_Net_at {P : Program} {w : World} {K : PySem.W.Frag} {mg : Str → Option Value} {base h : Heap} (y : Yh fa fn K mg h) : FnP P w K mg base (gg K) 3 f_Net_at [] (He.ma K (He.ga K "Net") "at") := by
  obtain ⟨fd, F⟩ := y.c.def_ 5
  have sc := sc_5
  exact fnP_ok F sc (F.bindsN fun _ _ _ _ _ _ us hl => match us, hl with | [_, _], _ => rfl) fun cdv A outer s H E hr tk hp => dss_cons (ds_if (dt_w (dw_or (dt_lt (dv 1) (de_int)) (dw_or1 (dt_ge (dv 1) (de_len rfl rfl (y.free 3) (de_fld (fld__letters_ok y) (dv 0))))))) (dss_one (ds_raise1 (cc := 12) (f1 := "at") rfl tk (hr.mono (by omega)) (ex_NoLetter y) rfl (dv 1))) (dss_nil)) (dss_one (ds_ret (de_ix rfl (de_fld (fld__letters_ok y) (dv 0)) (dv 1))))
theorem ok_Net_at_k {K : PySem.W.Frag} {mg : Str → Option Value} {h : Heap} (y : Yh fa fn K mg h) : PySem.W.keepIn K (.ref (He.ma K (He.ga K "Net") "at")) = true := by
  obtain ⟨fd, F⟩ := y.c.def_ 5
  exact F.kp

theorem mt_at_ok {X : Cx} {h : Heap} (y : Yh fa fn X.K X.mg h) : MethOk X (gg X.K) 3 mt_at "at" := by
  intro c m hm
  unfold mt_at at hm
  split at hm
  · cases hm; exact ⟨y.cls 46, _, y.meth 48, (ok_Net_at y).mono (by omega)⟩
  · cases hm

theorem sc_6 : FnScope ["self", "at", "letter"] ["self", "at"] (defScope (inClass (top 24) 4)) := ⟨rfl, rfl, rfl, by decide +kernel, rfl, by decide +kernel, by decide +kernel⟩
theorem ok_Net_take_out {P : Program} {w : World} {K : PySem.W.Frag} {mg : Str → Option Value} {base h : Heap} (y : Yh fa fn K mg h) : FnP P w K mg base (gg K) 4 f_Net_take_out [] (He.ma K (He.ga K "Net") "take_out") := by
  obtain ⟨fd, F⟩ := y.c.def_ 6
  have sc := sc_6
  exact fnP_ok F sc (F.bindsN fun _ _ _ _ _ _ us hl => match us, hl with | [_, _], _ => rfl) fun cdv A outer s H E hr tk hp => dss_cons (ds_set (i := 2) sc.nd rfl (by first | exact .inl rfl | exact .inr rfl) (de_meth (k := 3) (mt_at_ok y) (hr.mono (by omega)) tk (dv 0) (da_cons (dv 1) (da_nil)))) (dss_cons (ds_del (de_fld (fld__letters_ok y) (dv 0)) (dv 1)) (dss_one (ds_ret (dv 2))))
theorem ok_Net_take_out_k {K : PySem.W.Frag} {mg : Str → Option Value} {h : Heap} (y : Yh fa fn K mg h) : PySem.W.keepIn K (.ref (He.ma K (He.ga K "Net") "take_out")) = true := by
  obtain ⟨fd, F⟩ := y.c.def_ 6
  exact F.kp

theorem sc_7 : FnScope ["_law_e", "_law_row"] ["_law_e"] (defScope (top 28)) := ⟨rfl, rfl, rfl, by decide +kernel, rfl, by decide +kernel, by decide +kernel⟩
theorem ok__law_classes {P : Program} {w : World} {K : PySem.W.Frag} {mg : Str → Option Value} {base h : Heap} (y : Yh fa fn K mg h) : FnX P w K mg base (gg K) 1 f__law_classes (He.ga K "_law_classes") := by
  obtain ⟨fd, F⟩ := y.c.def_ 7
  have sc := sc_7
  exact fnX_ok F sc (F.bindsN fun _ _ _ _ _ _ us hl => match us, hl with | [_], _ => rfl) fun cdv A outer s H E p cls d hr tk hX => dss_cons (ds_set (i := 1) sc.nd rfl (by first | exact .inl rfl | exact .inr rfl) (de_im (dl_lst (da_cons (de_isX hX.has rfl (.inl rfl) (xt_OutOfRange_ok y) (te := .ref (He.ga K "OutOfRange")) (fun u r => r) (pe_glob rfl (y.glo 10) rfl) rfl (y.free 2)) (da_cons (de_isX hX.has rfl (.inl rfl) (xt_Unread_ok y) (te := .ref (He.ga K "Unread")) (fun u r => r) (pe_glob rfl (y.glo 11) rfl) rfl (y.free 2)) (da_cons (de_isX hX.has rfl (.inl rfl) (xt_Unfit_ok y) (te := .ref (He.ga K "Unfit")) (fun u r => r) (pe_glob rfl (y.glo 12) rfl) rfl (y.free 2)) (da_nil))))))) (dss_cons (ds_set (i := 1) sc.nd rfl (by first | exact .inl rfl | exact .inr rfl) (de_im (dl_cat (dv 1) (de_im (dl_lst (da_cons (de_isX hX.has rfl (.inl rfl) (xt_NotAccepted_ok y) (te := .ref (He.ga K "NotAccepted")) (fun u r => r) (pe_glob rfl (y.glo 13) rfl) rfl (y.free 2)) (da_cons (de_isX hX.has rfl (.inl rfl) (xt_BadStart_ok y) (te := .ref (He.ga K "BadStart")) (fun u r => r) (pe_glob rfl (y.glo 14) rfl) rfl (y.free 2)) (da_nil)))))))) (dss_cons (ds_set (i := 1) sc.nd rfl (by first | exact .inl rfl | exact .inr rfl) (de_im (dl_cat (dv 1) (de_im (dl_lst (da_cons (de_isX hX.has rfl (.inl rfl) (xt_BadSlips_ok y) (te := .ref (He.ga K "BadSlips")) (fun u r => r) (pe_glob rfl (y.glo 15) rfl) rfl (y.free 2)) (da_cons (de_isX hX.has rfl (.inl rfl) (xt_TooHeavy_ok y) (te := .ref (He.ga K "TooHeavy")) (fun u r => r) (pe_glob rfl (y.glo 16) rfl) rfl (y.free 2)) (da_nil)))))))) (dss_cons (ds_set (i := 1) sc.nd rfl (by first | exact .inl rfl | exact .inr rfl) (de_im (dl_cat (dv 1) (de_im (dl_lst (da_cons (de_isX hX.has rfl (.inl rfl) (xt_NotBest_ok y) (te := .ref (He.ga K "NotBest")) (fun u r => r) (pe_glob rfl (y.glo 17) rfl) rfl (y.free 2)) (da_cons (de_isX hX.has rfl (.inl rfl) (xt_NotOneChange_ok y) (te := .ref (He.ga K "NotOneChange")) (fun u r => r) (pe_glob rfl (y.glo 18) rfl) rfl (y.free 2)) (da_nil)))))))) (dss_cons (ds_set (i := 1) sc.nd rfl (by first | exact .inl rfl | exact .inr rfl) (de_im (dl_cat (dv 1) (de_im (dl_lst (da_cons (de_isX hX.has rfl (.inl rfl) (xt_BadWord_ok y) (te := .ref (He.ga K "BadWord")) (fun u r => r) (pe_glob rfl (y.glo 19) rfl) rfl (y.free 2)) (da_cons (de_isX hX.has rfl (.inl rfl) (xt_Busy_ok y) (te := .ref (He.ga K "Busy")) (fun u r => r) (pe_glob rfl (y.glo 20) rfl) rfl (y.free 2)) (da_nil)))))))) (dss_cons (ds_set (i := 1) sc.nd rfl (by first | exact .inl rfl | exact .inr rfl) (de_im (dl_cat (dv 1) (de_im (dl_lst (da_cons (de_isX hX.has rfl (.inl rfl) (xt_NoLetter_ok y) (te := .ref (He.ga K "NoLetter")) (fun u r => r) (pe_glob rfl (y.glo 21) rfl) rfl (y.free 2)) (da_cons (de_isX hX.has rfl (.inl rfl) (xt_Down_ok y) (te := .ref (He.ga K "Down")) (fun u r => r) (pe_glob rfl (y.glo 22) rfl) rfl (y.free 2)) (da_cons (de_isX hX.has rfl (.inl rfl) (xt_Up_ok y) (te := .ref (He.ga K "Up")) (fun u r => r) (pe_glob rfl (y.glo 23) rfl) rfl (y.free 2)) (da_nil))))))))) (dss_cons (ds_set (i := 1) sc.nd rfl (by first | exact .inl rfl | exact .inr rfl) (de_im (dl_cat (dv 1) (de_im (dl_lst (da_cons (de_isX hX.has rfl (.inl rfl) (xt_NotSynced_ok y) (te := .ref (He.ga K "NotSynced")) (fun u r => r) (pe_glob rfl (y.glo 24) rfl) rfl (y.free 2)) (da_cons (de_isX hX.has rfl (.inl rfl) (xt_BadEvent_ok y) (te := .ref (He.ga K "BadEvent")) (fun u r => r) (pe_glob rfl (y.glo 25) rfl) rfl (y.free 2)) (da_nil)))))))) (dss_cons (ds_set (i := 1) sc.nd rfl (by first | exact .inl rfl | exact .inr rfl) (de_im (dl_cat (dv 1) (de_im (dl_lst (da_cons (de_isX hX.has rfl (.inl rfl) (xt_NotAtRest_ok y) (te := .ref (He.ga K "NotAtRest")) (fun u r => r) (pe_glob rfl (y.glo 26) rfl) rfl (y.free 2)) (da_cons (de_isX hX.has rfl (.inl rfl) (xt_Warm_ok y) (te := .ref (He.ga K "Warm")) (fun u r => r) (pe_glob rfl (y.glo 27) rfl) rfl (y.free 2)) (da_nil)))))))) (dss_cons (ds_set (i := 1) sc.nd rfl (by first | exact .inl rfl | exact .inr rfl) (de_im (dl_cat (dv 1) (de_im (dl_lst (da_cons (de_isX hX.has rfl (.inl rfl) (xt_NothingToUndo_ok y) (te := .ref (He.ga K "NothingToUndo")) (fun u r => r) (pe_glob rfl (y.glo 28) rfl) rfl (y.free 2)) (da_cons (de_isX hX.has rfl (.inl rfl) (xt_NothingToRedo_ok y) (te := .ref (He.ga K "NothingToRedo")) (fun u r => r) (pe_glob rfl (y.glo 29) rfl) rfl (y.free 2)) (da_nil)))))))) (dss_one (ds_ret (de_count rfl (huH hr) (dv 1) (de_bl))))))))))))
theorem ok__law_classes_k {K : PySem.W.Frag} {mg : Str → Option Value} {h : Heap} (y : Yh fa fn K mg h) : PySem.W.keepIn K (.ref (He.ga K "_law_classes")) = true := by
  obtain ⟨fd, F⟩ := y.c.def_ 7
  exact F.kp

theorem sc_8 : FnScope ["_law_e", "_law_told"] ["_law_e", "_law_told"] (defScope (top 29)) := ⟨rfl, rfl, rfl, by decide +kernel, rfl, by decide +kernel, by decide +kernel⟩
theorem ok__law_refusal {P : Program} {w : World} {K : PySem.W.Frag} {mg : Str → Option Value} {base h : Heap} (y : Yh fa fn K mg h) : FnX P w K mg base (gg K) 2 f__law_refusal (He.ga K "_law_refusal") := by
  obtain ⟨fd, F⟩ := y.c.def_ 8
  have sc := sc_8
  exact fnX_ok F sc (F.bindsN fun _ _ _ _ _ _ us hl => match us, hl with | [_, _], _ => rfl) fun cdv A outer s H E p cls d hr tk hX => dss_cons (ds_if (dt_w (dw_or (dt_not (dt_val (de_isX hX.has rfl (.inl rfl) (xt_HeldError_ok y) (te := .ref (He.ga K "HeldError")) (fun u r => r) (pe_glob rfl (y.glo 30) rfl) rfl (y.free 2)))) (dw_or1 (dt_not (dt_val (de_isX hX.has rfl (.inl rfl) (xt_ValueError_ok y) (te := .ty "ValueError") (fun u r => r) (pe_bltn rfl (y.free 31) rfl rfl) rfl (y.free 2))))))) (dss_one (ds_ret (de_tup (da_cons (de_str) (da_nil))))) (dss_nil)) (dss_cons (ds_if (dt_ne rfl (huH64 hr) (de_callX (ok__law_classes y) (y.glo 32) (ok__law_classes_k y) (hr.mono (by omega)) (hX) (noneTaken tkF) rfl rfl (.inl rfl) (da_nil)) (de_int)) (dss_one (ds_ret (de_tup (da_cons (de_str) (da_nil))))) (dss_nil)) (dss_one (ds_ret (dv 1))))
theorem ok__law_refusal_k {K : PySem.W.Frag} {mg : Str → Option Value} {h : Heap} (y : Yh fa fn K mg h) : PySem.W.keepIn K (.ref (He.ga K "_law_refusal")) = true := by
  obtain ⟨fd, F⟩ := y.c.def_ 8
  exact F.kp

theorem mt_send_ok {X : Cx} {h : Heap} (y : Yh fa fn X.K X.mg h) : MethOk X (gg X.K) 1 mt_send "send" := by
  intro c m hm
  unfold mt_send at hm
  split at hm
  · cases hm; exact ⟨y.cls 46, _, y.meth 49, (ok_Net_send y).mono (by omega)⟩
  · cases hm

theorem mt_take_out_ok {X : Cx} {h : Heap} (y : Yh fa fn X.K X.mg h) : MethOk X (gg X.K) 4 mt_take_out "take_out" := by
  intro c m hm
  unfold mt_take_out at hm
  split at hm
  · cases hm; exact ⟨y.cls 46, _, y.meth 50, (ok_Net_take_out y).mono (by omega)⟩
  · cases hm

theorem sc_9 : FnScope ["_law_net", "_law_kind", "_law_place", "_law_letter_here", "_law_e"] ["_law_net", "_law_kind", "_law_place", "_law_letter_here"] (defScope (top 30)) := ⟨rfl, rfl, rfl, by decide +kernel, rfl, by decide +kernel, by decide +kernel⟩
theorem ok__law_done {P : Program} {w : World} {K : PySem.W.Frag} {mg : Str → Option Value} {base h : Heap} (y : Yh fa fn K mg h) : FnP P w K mg base (gg K) 5 f__law_done [] (He.ga K "_law_done") := by
  obtain ⟨fd, F⟩ := y.c.def_ 9
  have sc := sc_9
  exact fnP_ok F sc (F.bindsN fun _ _ _ _ _ _ us hl => match us, hl with | [_, _, _, _], _ => rfl) fun cdv A outer s H E hr tk hp => dss_one (ds_try (fun _ _ _ z => z) rfl rfl sc.nd tk (fun W pn1 xe1 tk1 hp1 => dss_cons (ds_if (dt_eq rfl (hu64 hr) (dv 1) (de_str)) (dss_one (ds_ret (de_tup (da_cons (de_str) (da_cons (de_meth (k := 1) (mt_send_ok y) (hr.mono (by omega)) tk1 (dv 0) (da_cons (dv 3) (da_nil))) (da_nil)))))) (dss_nil)) (dss_cons (ds_if (dt_eq rfl (hu64 hr) (dv 1) (de_str)) (dss_one (ds_ret (de_tup (da_cons (de_str) (da_cons (de_meth (k := 4) (mt_take_out_ok y) (hr.mono (by omega)) tk1 (dv 0) (da_cons (dv 2) (da_nil))) (da_nil)))))) (dss_nil)) (dss_one (ds_ret (de_tup (da_cons (de_str) (da_cons (de_meth (k := 3) (mt_at_ok y) (hr.mono (by omega)) tk1 (dv 0) (da_cons (dv 2) (da_nil))) (da_nil)))))))) (.named (i := 4) ⟨rfl, by decide, .inl (y.glo 21)⟩ rfl rfl (xc_NoLetter_ok y) (fun a oe cls d pn hz hf => dss_one (ds_ret (de_callX (ok__law_refusal y) (y.glo 33) (ok__law_refusal_k y) (roomHm (hr.mono (by omega)) _) (hot_suite hz hf) (noneTaken tkF) rfl rfl (.inl rfl) (da_cons (de_tup (da_cons (de_str) (da_cons (de_xf (X := _) hz hf rfl (.inl rfl) (xo_at_ok y)) (da_nil)))) (da_nil))))) (ClsD.nil)))
theorem ok__law_done_k {K : PySem.W.Frag} {mg : Str → Option Value} {h : Heap} (y : Yh fa fn K mg h) : PySem.W.keepIn K (.ref (He.ga K "_law_done")) = true := by
  obtain ⟨fd, F⟩ := y.c.def_ 9
  exact F.kp

theorem sc_10 : FnScope ["_law_letters", "_law_kind", "_law_place", "_law_letter_here"] ["_law_letters", "_law_kind", "_law_place", "_law_letter_here"] (defScope (top 31)) := ⟨rfl, rfl, rfl, by decide +kernel, rfl, by decide +kernel, by decide +kernel⟩
theorem ok__law_due {P : Program} {w : World} {K : PySem.W.Frag} {mg : Str → Option Value} {base h : Heap} (y : Yh fa fn K mg h) : FnP P w K mg base (gg K) 1 f__law_due [] (He.ga K "_law_due") := by
  obtain ⟨fd, F⟩ := y.c.def_ 10
  have sc := sc_10
  exact fnP_ok F sc (F.bindsN fun _ _ _ _ _ _ us hl => match us, hl with | [_, _, _, _], _ => rfl) fun cdv A outer s H E hr tk hp => dss_cons (ds_if (dt_eq rfl (hu64 hr) (dv 1) (de_str)) (dss_cons (ds_if (dt_ge (de_len rfl rfl (y.free 3) (dv 0)) (de_int)) (dss_one (ds_ret (de_tup (da_cons (de_str) (da_cons (de_bl) (da_nil)))))) (dss_nil)) (dss_cons (ds_exp (de_append rfl (dv 0) (dv 3))) (dss_one (ds_ret (de_tup (da_cons (de_str) (da_cons (de_bl) (da_nil)))))))) (dss_nil)) (dss_cons (ds_if (dt_w (dw_or (dt_lt (dv 2) (de_int)) (dw_or1 (dt_ge (dv 2) (de_len rfl rfl (y.free 3) (dv 0)))))) (dss_one (ds_ret (de_tup (da_cons (de_str) (da_cons (dv 2) (da_nil)))))) (dss_nil)) (dss_cons (ds_if (dt_eq rfl (hu64 hr) (dv 1) (de_str)) (dss_one (ds_ret (de_tup (da_cons (de_str) (da_cons (de_popAt rfl (dv 0) (dv 2)) (da_nil)))))) (dss_nil)) (dss_one (ds_ret (de_tup (da_cons (de_str) (da_cons (de_ix rfl (dv 0) (dv 2)) (da_nil))))))))
theorem ok__law_due_k {K : PySem.W.Frag} {mg : Str → Option Value} {h : Heap} (y : Yh fa fn K mg h) : PySem.W.keepIn K (.ref (He.ga K "_law_due")) = true := by
  obtain ⟨fd, F⟩ := y.c.def_ 10
  exact F.kp

theorem prp_letters_ok {X : Cx} {h : Heap} (y : Yh fa fn X.K X.mg h) : PrpOk X (gg X.K) 1 prp_letters "letters" := by
  intro c m hm
  unfold prp_letters at hm
  split at hm
  · cases hm; exact ⟨y.cls 46, _, _, prop_ok (y.c.fact 51), (ok_Net_letters y).mono (by omega)⟩
  · cases hm

theorem sc_11 : FnScope ["_law_nets", "_law_lists", "_law_k", "_law_net", "_law_rows", "_law_letter_here"] ["_law_nets", "_law_lists"] (defScope (top 34)) := ⟨rfl, rfl, rfl, by decide +kernel, rfl, by decide +kernel, by decide +kernel⟩
theorem ok__law_seen {P : Program} {w : World} {K : PySem.W.Frag} {mg : Str → Option Value} {base h : Heap} (y : Yh fa fn K mg h) : FnP P w K mg base (gg K) 3 f__law_seen [] (He.ga K "_law_seen") := by
  obtain ⟨fd, F⟩ := y.c.def_ 11
  have sc := sc_11
  exact fnP_ok F sc (F.bindsN fun _ _ _ _ _ _ us hl => match us, hl with | [_, _], _ => rfl) fun cdv A outer s H E hr tk hp => dss_cons (ds_for (tvs := [2]) hp rfl (di_range1 rfl (y.free 4) (de_int)) (gn 2 sc.nd) (dss_cons (ds_set (i := 3) sc.nd rfl (by first | exact .inl rfl | exact .inr rfl) (de_ix rfl (dv 0) (dv 2))) (dss_cons (ds_compI (own := [("_law_letter_here", 5)]) (i := 4) rfl sc.nd rfl rfl (di_own rfl (iter_net y) (hr.mono (by omega)) tk (dv 3)) (blkOk_by rfl) (fun _ _ _ _ _ => ⟨gn 5 sc.nd, dts_nil, dv 5⟩)) (dss_one (ds_if (dt_w (dw_or (dt_ne rfl (hu64 hr) (dv 4) (de_ix rfl (dv 1) (dv 2))) (dw_or1 (dt_ne rfl (hu64 hr) (de_prp (fld_letters_ok y) (prp_letters_ok y) (hr.mono (by omega)) (dv 3)) (de_tuple rfl rfl (y.free 0) (de_ix rfl (dv 1) (dv 2))))))) (dss_one (ds_ret (de_bl))) (dss_nil)))))) (dss_one (ds_ret (de_bl)))
theorem ok__law_seen_k {K : PySem.W.Frag} {mg : Str → Option Value} {h : Heap} (y : Yh fa fn K mg h) : PySem.W.keepIn K (.ref (He.ga K "_law_seen")) = true := by
  obtain ⟨fd, F⟩ := y.c.def_ 11
  exact F.kp

theorem sc_12 : FnScope ["_law_pool", "_law_most", "_law_pick"] ["_law_pool", "_law_most"] (defScope (top 32)) := ⟨rfl, rfl, rfl, by decide +kernel, rfl, by decide +kernel, by decide +kernel⟩
theorem ok__law_number {P : Program} {w : World} {K : PySem.W.Frag} {mg : Str → Option Value} {base h : Heap} (y : Yh fa fn K mg h) : FnP P w K mg base (gg K) 2 f__law_number [] (He.ga K "_law_number") := by
  obtain ⟨fd, F⟩ := y.c.def_ 12
  have sc := sc_12
  exact fnP_ok F sc (F.bindsN fun _ _ _ _ _ _ us hl => match us, hl with | [_, _], _ => rfl) fun cdv A outer s H E hr tk hp => dss_cons (ds_set (i := 2) sc.nd rfl (by first | exact .inl rfl | exact .inr rfl) (de_call (ok__law_draw y) (y.glo 34) (ok__law_draw_k y) (hr.mono (by omega)) tk rfl (da_cons (dv 0) (da_cons (de_int) (da_nil))))) (dss_cons (ds_if (dt_lt (dv 2) (de_int)) (dss_one (ds_ret (de_mod (de_int1 rfl (y.free 1) (de_call (ok__law_draw y) (y.glo 34) (ok__law_draw_k y) (hr.mono (by omega)) tk rfl (da_cons (dv 0) (da_cons (de_int) (da_nil))))) (de_add (dv 1) (de_int))))) (dss_nil)) (dss_cons (ds_if (dt_eq rfl (hu64 hr) (dv 2) (de_int)) (dss_one (ds_ret (de_call (ok__law_draw y) (y.glo 34) (ok__law_draw_k y) (hr.mono (by omega)) tk rfl (da_cons (dv 0) (da_cons (de_add (dv 1) (de_int)) (da_nil)))))) (dss_nil)) (dss_one (ds_ret (de_sub (de_add (dv 1) (de_int)) (dv 2))))))
theorem ok__law_number_k {K : PySem.W.Frag} {mg : Str → Option Value} {h : Heap} (y : Yh fa fn K mg h) : PySem.W.keepIn K (.ref (He.ga K "_law_number")) = true := by
  obtain ⟨fd, F⟩ := y.c.def_ 12
  exact F.kp

theorem sc_13 : FnScope ["_law_pool", "_law_era", "_law_seeker", "_law_desk", "_law_amount", "_law_own"] ["_law_pool"] (defScope (top 33)) := ⟨rfl, rfl, rfl, by decide +kernel, rfl, by decide +kernel, by decide +kernel⟩
theorem ok__law_letter {P : Program} {w : World} {K : PySem.W.Frag} {mg : Str → Option Value} {base h : Heap} (y : Yh fa fn K mg h) : FnP P w K mg base (gg K) 3 f__law_letter [] (He.ga K "_law_letter") := by
  obtain ⟨fd, F⟩ := y.c.def_ 13
  have sc := sc_13
  exact fnP_ok F sc (F.bindsN fun _ _ _ _ _ _ us hl => match us, hl with | [_], _ => rfl) fun cdv A outer s H E hr tk hp => dss_cons (ds_set (i := 1) sc.nd rfl (by first | exact .inl rfl | exact .inr rfl) (de_call (ok__law_number y) (y.glo 35) (ok__law_number_k y) (hr.mono (by omega)) tk rfl (da_cons (dv 0) (da_cons (de_int) (da_nil))))) (dss_cons (ds_set (i := 2) sc.nd rfl (by first | exact .inl rfl | exact .inr rfl) (de_call (ok__law_number y) (y.glo 35) (ok__law_number_k y) (hr.mono (by omega)) tk rfl (da_cons (dv 0) (da_cons (de_int) (da_nil))))) (dss_cons (ds_set (i := 3) sc.nd rfl (by first | exact .inl rfl | exact .inr rfl) (de_call (ok__law_number y) (y.glo 35) (ok__law_number_k y) (hr.mono (by omega)) tk rfl (da_cons (dv 0) (da_cons (de_int) (da_nil))))) (dss_cons (ds_set (i := 4) sc.nd rfl (by first | exact .inl rfl | exact .inr rfl) (de_call (ok__law_number y) (y.glo 35) (ok__law_number_k y) (hr.mono (by omega)) tk rfl (da_cons (dv 0) (da_cons (de_int) (da_nil))))) (dss_cons (ds_if (dt_eq rfl (hu64 hr) (de_call (ok__law_draw y) (y.glo 34) (ok__law_draw_k y) (hr.mono (by omega)) tk rfl (da_cons (dv 0) (da_cons (de_int) (da_nil)))) (de_int)) (dss_one (ds_ret (de_tup (da_cons (de_str) (da_cons (dv 1) (da_cons (dv 2) (da_cons (dv 3) (da_cons (dv 4) (da_nil))))))))) (dss_nil)) (dss_cons (ds_set (i := 5) sc.nd rfl (by first | exact .inl rfl | exact .inr rfl) (de_neg (de_int))) (dss_cons (ds_if (dt_eq rfl (hu64 hr) (de_call (ok__law_draw y) (y.glo 34) (ok__law_draw_k y) (hr.mono (by omega)) tk rfl (da_cons (dv 0) (da_cons (de_int) (da_nil)))) (de_int)) (dss_one (ds_set (i := 5) sc.nd rfl (by first | exact .inl rfl | exact .inr rfl) (de_call (ok__law_number y) (y.glo 35) (ok__law_number_k y) (hr.mono (by omega)) tk rfl (da_cons (dv 0) (da_cons (de_int) (da_nil)))))) (dss_nil)) (dss_one (ds_ret (de_tup (da_cons (de_str) (da_cons (dv 1) (da_cons (dv 3) (da_cons (dv 2) (da_cons (de_call (ok__law_number y) (y.glo 35) (ok__law_number_k y) (hr.mono (by omega)) tk rfl (da_cons (dv 0) (da_cons (de_int) (da_nil)))) (da_cons (dv 4) (da_cons (dv 5) (da_nil)))))))))))))))))
theorem ok__law_letter_k {K : PySem.W.Frag} {mg : Str → Option Value} {h : Heap} (y : Yh fa fn K mg h) : PySem.W.keepIn K (.ref (He.ga K "_law_letter")) = true := by
  obtain ⟨fd, F⟩ := y.c.def_ 13
  exact F.kp

theorem sc_14 : FnScope ["_law_pool", "_law_nets", "_law_lists", "_law_kind", "_law_k", "_law_who", "_law_letter_here", "_law_handed", "_law_many", "_law_place", "_law_odd", "_law_told"] ["_law_pool", "_law_nets", "_law_lists", "_law_kind", "_law_k"] (defScope (top 35)) := ⟨rfl, rfl, rfl, by decide +kernel, rfl, by decide +kernel, by decide +kernel⟩
theorem ok__law_deed {P : Program} {w : World} {K : PySem.W.Frag} {mg : Str → Option Value} {base h : Heap} (y : Yh fa fn K mg h) : FnP P w K mg base (gg K) 10 f__law_deed [] (He.ga K "_law_deed") := by
  obtain ⟨fd, F⟩ := y.c.def_ 14
  have sc := sc_14
  exact fnP_ok F sc (F.bindsN fun _ _ _ _ _ _ us hl => match us, hl with | [_, _, _, _, _], _ => rfl) fun cdv A outer s H E hr tk hp => dss_cons (ds_set (i := 5) sc.nd rfl (by first | exact .inl rfl | exact .inr rfl) (de_mod (de_int1 rfl (y.free 1) (de_add (de_div (dv 4) (de_int)) (de_call (ok__law_draw y) (y.glo 34) (ok__law_draw_k y) (hr.mono (by omega)) tk rfl (da_cons (dv 0) (da_cons (de_int) (da_nil)))))) (de_int))) (dss_cons (ds_set (i := 6) sc.nd rfl (by first | exact .inl rfl | exact .inr rfl) (de_tup (da_cons (de_str) (da_cons (de_int) (da_cons (de_int) (da_cons (de_int) (da_cons (de_int) (da_nil)))))))) (dss_cons (ds_if (dt_eq rfl (hu64 hr) (dv 3) (de_str)) (dss_one (ds_set (i := 6) sc.nd rfl (by first | exact .inl rfl | exact .inr rfl) (de_call (ok__law_letter y) (y.glo 36) (ok__law_letter_k y) (hr.mono (by omega)) tk rfl (da_cons (dv 0) (da_nil))))) (dss_nil)) (dss_cons (ds_set (i := 7) sc.nd rfl (by first | exact .inl rfl | exact .inr rfl) (dv 6)) (dss_cons (ds_if (dt_eq rfl (hu64 hr) (de_call (ok__law_draw y) (y.glo 34) (ok__law_draw_k y) (hr.mono (by omega)) tk rfl (da_cons (dv 0) (da_cons (de_int) (da_nil)))) (de_int)) (dss_one (ds_set (i := 7) sc.nd rfl (by first | exact .inl rfl | exact .inr rfl) (de_al (dl_list rfl rfl (y.free 37) (dv 6))))) (dss_nil)) (dss_cons (ds_set (i := 8) sc.nd rfl (by first | exact .inl rfl | exact .inr rfl) (de_len rfl rfl (y.free 3) (de_ix rfl (dv 2) (dv 5)))) (dss_cons (ds_set (i := 9) sc.nd rfl (by first | exact .inl rfl | exact .inr rfl) (de_call (ok__law_draw y) (y.glo 34) (ok__law_draw_k y) (hr.mono (by omega)) tk rfl (da_cons (dv 0) (da_cons (de_max2 rfl rfl (y.free 38) (de_int) (dv 8)) (da_nil))))) (dss_cons (ds_set (i := 10) sc.nd rfl (by first | exact .inl rfl | exact .inr rfl) (de_call (ok__law_draw y) (y.glo 34) (ok__law_draw_k y) (hr.mono (by omega)) tk rfl (da_cons (dv 0) (da_cons (de_int) (da_nil))))) (dss_cons (ds_if (dt_eq rfl (hu64 hr) (dv 10) (de_int)) (dss_one (ds_set (i := 9) sc.nd rfl (by first | exact .inl rfl | exact .inr rfl) (de_add (dv 8) (de_call (ok__law_draw y) (y.glo 34) (ok__law_draw_k y) (hr.mono (by omega)) tk rfl (da_cons (dv 0) (da_cons (de_int) (da_nil))))))) (dss_nil)) (dss_cons (ds_if (dt_eq rfl (hu64 hr) (dv 10) (de_int)) (dss_one (ds_set (i := 9) sc.nd rfl (by first | exact .inl rfl | exact .inr rfl) (de_sub (de_sub (de_int) (de_int)) (de_call (ok__law_draw y) (y.glo 34) (ok__law_draw_k y) (hr.mono (by omega)) tk rfl (da_cons (dv 0) (da_cons (de_int) (da_nil))))))) (dss_nil)) (dss_cons (ds_set (i := 11) sc.nd rfl (by first | exact .inl rfl | exact .inr rfl) (de_call (ok__law_done y) (y.glo 39) (ok__law_done_k y) (hr.mono (by omega)) tk rfl (da_cons (de_ix rfl (dv 1) (dv 5)) (da_cons (dv 3) (da_cons (dv 9) (da_cons (dv 7) (da_nil))))))) (dss_cons (ds_if (dt_not (dt_val (de_call (ok__law_same y 8) (y.glo 5) (ok__law_same_k y) (hr.mono (by omega)) tk rfl (da_cons (dv 11) (da_cons (de_call (ok__law_due y) (y.glo 40) (ok__law_due_k y) (hr.mono (by omega)) tk rfl (da_cons (de_ix rfl (dv 2) (dv 5)) (da_cons (dv 3) (da_cons (dv 9) (da_cons (dv 6) (da_nil)))))) (da_nil)))))) (dss_one (ds_ret (de_bl))) (dss_nil)) (dss_cons (ds_if (dt_val (de_isT (T := "list") rfl (by decide) rfl (y.free 2) rfl (y.free 37) rfl (dv 7))) (dss_cons (ds_if (dt_ne rfl (hu64 hr) (dv 7) (de_im (dl_list rfl rfl (y.free 37) (dv 6)))) (dss_one (ds_ret (de_bl))) (dss_nil)) (dss_cons (ds_asg (vs := []) (de_add (de_ix rfl (dv 7) (de_int)) (de_int)) (dg_set (Wx := WxF) (dv 7) (de_int))) (dss_one (ds_exp (de_append rfl (dv 7) (de_int)))))) (dss_nil)) (dss_one (ds_ret (de_call (ok__law_seen y) (y.glo 41) (ok__law_seen_k y) (hr.mono (by omega)) tk rfl (da_cons (dv 1) (da_cons (dv 2) (da_nil))))))))))))))))))
theorem ok__law_deed_k {K : PySem.W.Frag} {mg : Str → Option Value} {h : Heap} (y : Yh fa fn K mg h) : PySem.W.keepIn K (.ref (He.ga K "_law_deed")) = true := by
  obtain ⟨fd, F⟩ := y.c.def_ 14
  exact F.kp

theorem sc_15 : FnScope ["_law_script", "_law_pool", "_law_mode", "_law_many", "_law_nets", "_law_lists", "_law_k", "_law_letter_here", "_law_told", "_law_pick", "_law_kind", "_law_place", "_law_cell"] ["_law_script"] (defScope (top 36)) := ⟨rfl, rfl, rfl, by decide +kernel, rfl, by decide +kernel, by decide +kernel⟩
theorem law_ok {P : Program} {w : World} {K : PySem.W.Frag} {mg : Str → Option Value} {h : Heap} (y : Yh fa fn K mg h) : ∃ fd : FuncData, (∀ (s : Shared) (v : Value), BindsTo s fd ⟨[v], []⟩ [("_law_script", v)]) ∧ ∀ base : Heap, FnOk P w K mg base (L2N.CX P w) 11 (He.ga K "law") fd ["_law_script"] (spOf (gg K) 1 f_law) := by
  obtain ⟨fd, F⟩ := y.c.def_ 15
  have sc := sc_15
  refine ⟨fd, fun s v => F.bindsA (ps := ["_law_script"]) (fun _ _ _ _ _ _ us hl => match us, hl with | [_], _ => rfl) s [v] rfl, fun base => fn_ok F sc fun cdv A outer s H E hr tk hp => ?_⟩
  exact dss_cons (ds_compA (own := [("_law_cell", 12)]) (i := 1) rfl sc.nd rfl rfl (di_seq rfl (de_im (dl_cut rfl (dv 0) (do_none) (do_some (de_int))))) (blkOk_by rfl) (fun _ _ _ _ _ => ⟨gn 12 sc.nd, dts_nil, de_abs rfl (y.free 42) (dv 12)⟩)) (dss_cons (ds_set (i := 2) sc.nd rfl (by first | exact .inl rfl | exact .inr rfl) (de_call (ok__law_draw y) (y.glo 34) (ok__law_draw_k y) (hr.mono (by omega)) tk rfl (da_cons (dv 1) (da_cons (de_int) (da_nil))))) (dss_cons (ds_set (i := 3) sc.nd rfl (by first | exact .inl rfl | exact .inr rfl) (de_mod (de_int1 rfl (y.free 1) (de_add (de_int) (de_call (ok__law_draw y) (y.glo 34) (ok__law_draw_k y) (hr.mono (by omega)) tk rfl (da_cons (dv 1) (da_cons (de_int) (da_nil)))))) (de_int))) (dss_cons (ds_if (dt_eq rfl (hu64 hr) (dv 2) (de_int)) (dss_one (ds_set (i := 3) sc.nd rfl (by first | exact .inl rfl | exact .inr rfl) (de_add (de_int) (de_mod (de_int1 rfl (y.free 1) (dv 3)) (de_int))))) (dss_nil)) (dss_cons (ds_set (i := 4) sc.nd rfl (by first | exact .inl rfl | exact .inr rfl) (de_im (dl_lst (da_cons (de_new0 (c := 21) (y.mkr 43) (ok_Net___init__ y) (hr.mono (by omega)) tk rfl (y.glo 44)) (da_cons (de_new0 (c := 21) (y.mkr 43) (ok_Net___init__ y) (hr.mono (by omega)) tk rfl (y.glo 44)) (da_nil)))))) (dss_cons (ds_set (i := 5) sc.nd rfl (by first | exact .inl rfl | exact .inr rfl) (de_im (dl_lst (da_cons (de_al (dl_lst da_nil)) (da_cons (de_al (dl_lst da_nil)) (da_nil)))))) (dss_cons (ds_if (dt_not (dt_val (de_call (ok__law_seen y) (y.glo 41) (ok__law_seen_k y) (hr.mono (by omega)) tk rfl (da_cons (dv 4) (da_cons (dv 5) (da_nil)))))) (dss_one (ds_ret (de_bl))) (dss_nil)) (dss_cons (ds_for (tvs := [6]) hp rfl (di_range1 rfl (y.free 4) (dv 3)) (gn 6 sc.nd) (dss_cons (ds_set (i := 7) sc.nd rfl (by first | exact .inl rfl | exact .inr rfl) (de_tup (da_cons (de_str) (da_cons (dv 6) (da_cons (de_mod (de_int1 rfl (y.free 1) (dv 6)) (de_int)) (da_cons (de_mod (de_int1 rfl (y.free 1) (dv 6)) (de_int)) (da_cons (de_mul (de_int) (dv 6)) (da_nil)))))))) (dss_cons (ds_if (dt_eq rfl (hu64 hr) (de_mod (de_int1 rfl (y.free 1) (dv 6)) (de_int)) (de_int)) (dss_one (ds_set (i := 7) sc.nd rfl (by first | exact .inl rfl | exact .inr rfl) (de_tup (da_cons (de_str) (da_cons (dv 6) (da_cons (de_mod (de_int1 rfl (y.free 1) (dv 6)) (de_int)) (da_cons (de_mod (de_int1 rfl (y.free 1) (dv 6)) (de_int)) (da_cons (de_mul (de_int) (dv 6)) (da_cons (dv 6) (da_cons (de_sub (dv 6) (de_int)) (da_nil))))))))))) (dss_nil)) (dss_cons (ds_set (i := 8) sc.nd rfl (by first | exact .inl rfl | exact .inr rfl) (de_call (ok__law_done y) (y.glo 39) (ok__law_done_k y) (hr.mono (by omega)) tk rfl (da_cons (de_ix rfl (dv 4) (de_int)) (da_cons (de_str) (da_cons (de_int) (da_cons (dv 7) (da_nil))))))) (dss_one (ds_if (dt_not (dt_val (de_call (ok__law_same y 8) (y.glo 5) (ok__law_same_k y) (hr.mono (by omega)) tk rfl (da_cons (dv 8) (da_cons (de_call (ok__law_due y) (y.glo 40) (ok__law_due_k y) (hr.mono (by omega)) tk rfl (da_cons (de_ix rfl (dv 5) (de_int)) (da_cons (de_str) (da_cons (de_int) (da_cons (dv 7) (da_nil)))))) (da_nil)))))) (dss_one (ds_ret (de_bl))) (dss_nil))))))) (dss_cons (ds_for (tvs := [6]) hp rfl (di_range1 rfl (y.free 4) (de_int)) (gn 6 sc.nd) (dss_cons (ds_set (i := 9) sc.nd rfl (by first | exact .inl rfl | exact .inr rfl) (de_mod (de_int1 rfl (y.free 1) (de_add (dv 6) (de_call (ok__law_draw y) (y.glo 34) (ok__law_draw_k y) (hr.mono (by omega)) tk rfl (da_cons (dv 1) (da_cons (de_int) (da_nil)))))) (de_int))) (dss_cons (ds_set (i := 10) sc.nd rfl (by first | exact .inl rfl | exact .inr rfl) (de_ix rfl (de_im (dl_lst (da_cons (de_str) (da_cons (de_str) (da_cons (de_str) (da_cons (de_str) (da_cons (de_str) (da_nil)))))))) (dv 9))) (dss_cons (ds_if (dt_w (dw_and (dt_eq rfl (hu64 hr) (dv 2) (de_int)) (dw_and1 (dt_lt (dv 6) (de_int))))) (dss_one (ds_set (i := 10) sc.nd rfl (by first | exact .inl rfl | exact .inr rfl) (de_str))) (dss_nil)) (dss_one (ds_if (dt_not (dt_val (de_call (ok__law_deed y) (y.glo 45) (ok__law_deed_k y) (hr.mono (by omega)) tk rfl (da_cons (dv 1) (da_cons (dv 4) (da_cons (dv 5) (da_cons (dv 10) (da_cons (dv 6) (da_nil))))))))) (dss_one (ds_ret (de_bl))) (dss_nil))))))) (dss_cons (ds_for (tvs := [6]) hp rfl (di_range1 rfl (y.free 4) (de_int)) (gn 6 sc.nd) (dss_cons (ds_if (dt_not (dt_val (de_call (ok__law_same y 8) (y.glo 5) (ok__law_same_k y) (hr.mono (by omega)) tk rfl (da_cons (de_prp (fld_letters_ok y) (prp_letters_ok y) (hr.mono (by omega)) (de_ix rfl (dv 4) (dv 6))) (da_cons (de_tuple rfl rfl (y.free 0) (de_ix rfl (dv 5) (dv 6))) (da_nil)))))) (dss_one (ds_ret (de_bl))) (dss_nil)) (dss_cons (ds_set (i := 11) sc.nd rfl (by first | exact .inl rfl | exact .inr rfl) (de_len rfl rfl (y.free 3) (de_ix rfl (dv 5) (dv 6)))) (dss_one (ds_for (tvs := [10]) hp rfl (di_seq rfl (de_im (dl_lst (da_cons (de_str) (da_cons (de_str) (da_nil)))))) (gn 10 sc.nd) (dss_one (ds_if (dt_not (dt_val (de_call (ok__law_same y 8) (y.glo 5) (ok__law_same_k y) (hr.mono (by omega)) tk rfl (da_cons (de_call (ok__law_done y) (y.glo 39) (ok__law_done_k y) (hr.mono (by omega)) tk rfl (da_cons (de_ix rfl (dv 4) (dv 6)) (da_cons (dv 10) (da_cons (dv 11) (da_cons (de_tup (da_nil)) (da_nil)))))) (da_cons (de_tup (da_cons (de_str) (da_cons (dv 11) (da_nil)))) (da_nil)))))) (dss_one (ds_ret (de_bl))) (dss_nil)))))))) (dss_one (ds_ret (de_call (ok__law_seen y) (y.glo 41) (ok__law_seen_k y) (hr.mono (by omega)) tk rfl (da_cons (dv 4) (da_cons (dv 5) (da_nil)))))))))))))))

abbrev R : PySem.W.OpenRow := PySem.W.OpenLaw.row PySem.Challenge.rw_heldbest_k65_nets
abbrev hk : PySem.W.Hook := hookF 5 fa fn
def ob (s : PySem.W.SharedT) : AlF := obsFG 5 fa fn (HandSHeadRun.getT s)
theorem ob_eq (s : PySem.W.SharedT) : ob s = hk.obs s.abs := obsFG_eq s
def nm0 : List Str := [PySem.Str.ofString "HeldError", PySem.Str.ofString "OutOfRange", PySem.Str.ofString "Unread", PySem.Str.ofString "Unfit", PySem.Str.ofString "NotAccepted", PySem.Str.ofString "BadStart", PySem.Str.ofString "BadSlips", PySem.Str.ofString "TooHeavy", PySem.Str.ofString "NotBest", PySem.Str.ofString "NotOneChange", PySem.Str.ofString "BadWord", PySem.Str.ofString "Busy", PySem.Str.ofString "NoLetter", PySem.Str.ofString "Down", PySem.Str.ofString "Up", PySem.Str.ofString "NotSynced", PySem.Str.ofString "BadEvent", PySem.Str.ofString "NotAtRest", PySem.Str.ofString "Warm", PySem.Str.ofString "NothingToUndo", PySem.Str.ofString "NothingToRedo", PySem.Str.ofString "MOST_LETTERS", PySem.Str.ofString "Net", PySem.Str.ofString "_law_draw", PySem.Str.ofString "_law_same", PySem.Str.ofString "_law_classes", PySem.Str.ofString "_law_refusal", PySem.Str.ofString "_law_done", PySem.Str.ofString "_law_due", PySem.Str.ofString "_law_number", PySem.Str.ofString "_law_letter", PySem.Str.ofString "_law_seen", PySem.Str.ofString "_law_deed"]
def names : List Str := nm0
theorem run (w : World) : HandSHeadRun.RunEq R (PySem.W.view R.prog [36]) hk ob 6000 names w := by
  intro os
  kernel_rfl
end Kheldbestk65nets

open PySem PySem.W PySem.Calls PyProof.Rows
theorem PySem.Challenge.cw_heldbest_k65_nets_holds0 (LAW : ∀ ns : List Int, ns.length ≤ 63 → ∃ st, Kheldbestk65nets.f_law [.sc (ns.map Hb.W.int)] [] = .ok (.bl true) st) : PySem.Challenge.rw_heldbest_k65_nets.Holds := by
  w_on; o_law
  refine HandSHeadRun.head_any (r := OpenLaw.row PySem.Challenge.rw_heldbest_k65_nets) (q := view (OpenLaw.row PySem.Challenge.rw_heldbest_k65_nets).prog [36]) (H := Kheldbestk65nets.hk) (ob := Kheldbestk65nets.ob) (M := 6000) (loose := Kheldbestk65nets.names) (d := HandSHeadRun.topDef (OpenLaw.row PySem.Challenge.rw_heldbest_k65_nets).prog 36) (kwd := []) Kheldbestk65nets.ob_eq
    (by kernel_rfl) (fun s => by kernel_rfl) Kheldbestk65nets.run (by kernel_rfl) (by kernel_rfl) (by kernel_rfl) (by rfl) (by first | assumption | decide +kernel) (by decide +kernel) ⟨rfl, rfl, rfl, rfl, rfl, by decide +kernel⟩ ?hw ?hc
  case hw => w_witness2
  case hc =>
    refine L2.walk_ofE (l := PySem.Challenge.rw_heldbest_k65_nets) (n := 63) (k := 11) (x := "_law_script") (CX := L2.CX0) rfl (by decide) (by kernel_rfl) ⟨rfl, by decide, by decide⟩ ?F (fun _ _ _ _ z => z)
    intro w mg fa h Y G hmg0
    obtain ⟨K, KX, c⟩ := Y
    have y : Hb.Yh Kheldbestk65nets.fa Kheldbestk65nets.fn K mg h := ⟨KX, G, c⟩
    have hmg : mg ("law" : PySem.Str) = some (.ref fa) := by
      have e : (HandSHeadRun.topDef (OpenLaw.row PySem.Challenge.rw_heldbest_k65_nets).prog 36).name = ("law" : PySem.Str) := by kernel_rfl
      rw [← e]
      exact hmg0
    have e := hmg.symm.trans (y.glo (x := "law") 52)
    cases e
    obtain ⟨fd, hb, hF⟩ := Kheldbestk65nets.law_ok (P := (PySem.Challenge.rw_heldbest_k65_nets).prog) (w := w) y
    exact Hb.law_F KX rfl hb hF LAW

end

section
set_option Elab.async false
set_option linter.all false
set_option maxRecDepth 100000
set_option maxHeartbeats 1000000
namespace Kheldbestk65nets
open PySem L2 Hb

theorem datWs_ints (st : Store) (k : Nat) : ∀ l : List Int, datWs st k (l.map W.int) = some (l.map PyData.int)
  | [] => datWs_nil
  | i :: l => by
    simp only [List.map_cons]
    rw [datWs_cons, datWs_ints st k l, datW]; rfl
def IsPool (st : Store) (p : Nat) (l : List Int) : Prop := st[p]? = some (.lst (l.map W.int)) ∧ (∀ x ∈ l, 0 ≤ x) ∧ l.length ≤ 63
theorem set_self {st : Store} {p : Nat} {c : Cell} (h : st[p]? = some c) : st.set p c = st := by
  obtain ⟨h1, h2⟩ := List.getElem?_eq_some_iff.mp h
  rw [← h2]; simp
theorem draw_ok {st : Store} {p : Nat} {l : List Int} {m : Int} {Q : W → Store → Prop} {E : EX} (h : IsPool st p l) (hm : 0 < m) (hm2 : m < 1073741824)
    (hq : ∀ r l', 0 ≤ r → r < m → IsPool (st.set p (.lst (l'.map W.int))) p l' → Q (.int r) (st.set p (.lst (l'.map W.int)))) : wE (f__law_draw [.ref p, .int m] st) Q E := by
  obtain ⟨h1, h2, h3⟩ := h
  have hp : p < st.length := (List.getElem?_eq_some_iff.mp h1).1
  have hp' : ∀ c, (st.set p c)[p]? = some c := fun c => List.getElem?_set_self hp
  have hi : dat st (.im []) = some (.list []) := by rw [dat_im, datWs_nil]; rfl
  unfold f__law_draw
  cases l with
  | nil =>
    try simp (config := { dsimp := false }) only [o_bl, o_slv, o_sll, o_op, o_if, o_d2, f_eq, f_ne, o_tup, o_len, o_bls, o_int, o_at, o_app, o_pop0, o_ins, o_cat, f_cnt, o_ty, o_isX, o_xf, o_cX, o_ran, o_sm, o_catchT, o_catchF, wE_oIf, gDivC, gModC, Option.isNone_none, Option.isNone_some, Option.bind_some, Bool.and_true, Bool.true_and, Bool.and_eq_true, decide_eq_true_eq, decide_eq_false_iff_not, v_catT, ln_sc, wE_ok, wE_exc, wE_bad, wE_bind, wS_nx, wS_rt, wS_bk, wS_ct, wS_exc, wS_bad, wS_bSeq, w_bNil, w_sBrk, w_sCnt, w_sIf, w_sRet, w_sRetN, w_sSet, w_sSetL, w_sExp, w_eBin, w_lBin, w_eUn, w_lUn, w_tOf, w_tAnd2, w_tOr2, w_tNot1, w_eAnd, w_eOr, w_eNot, w_eIf, w_eC, w_eTup, w_lLst, w_aNil, w_aCons, w_eIm, w_eAl, w_eCall, w_eFld, w_eM1, w_eM0, w_eM2, w_eMeth, w_ePrp, w_eNew, w_sFldW, w_sDel, w_sRaise1, v_add, v_addS, v_sub, v_mul, v_div, v_mod, v_lt, v_le, v_gt, v_ge, v_isN, v_notN, v_neg, v_int, v_intB, v_abs, v_max2, v_min2, v_eq, v_ne, v_tup, v_seqL, v_bls, v_ints, v_app, v_popAt, v_pop, v_ins, v_cat, v_cnt, w_eIsT, w_eVar, w_eIsX, w_eXf, w_eCallX, w_iRan1, w_iSeq, w_iOwn, w_lComp, w_sFor, w_for0, w_for1, w_gN, w_gSet, w_sTry, w_catch0, w_catch, w_aftX, w_sAsg, w_lCut, w_oNone, w_oSome, w_tYes, dat_cs, dat_non, dat_bl, dat_int, eqv_int, eqv_bool, eqv_cs, eqv_str, eqv_l00, eqv_l10, eqv_t00, eqv_t10, wE_mkFF, r_lstR, r_lstM, r_seqW, r_lstW, r_isL, r_insAt, r_tyW, r_srcW, r_dat, s_im, s_tup, s_lr, s_sc, l_im, l_lr, l_sc, m_im, m_lr, i_im, i_lr, i_sc, c_im, c_tup, c_sc, t_tup, t_im, t_int, t_bl, t_str, t_non, ln_ref, ln_tup, ln_im, ln_lr, ix_ref, ix_tup', ix_im, ix_lr, ix_sc, isN_ref, isN_non, isN_tup, isN_int, isN_bl, isN_str, isN_im, List.map_cons, List.map_nil, List.cons_append, List.nil_append, List.append_nil, List.getElem?_cons_zero, List.getElem?_cons_succ, List.set_cons_zero, List.set_cons_succ, List.replicate_succ, List.replicate_zero, List.length_cons, List.length_nil, List.lookup, il_int, il_bl, il_str, il_non, il_tup, il_im, il_sc, il_ref, il_cl, il_lr, ixN_zero, it_NoneType_bool, it_NoneType_int, it_NoneType_str, it_NoneType_tuple, it_NoneType_list, it_NoneType_dict, it_bool_bool, it_bool_int, it_bool_str, it_bool_tuple, it_bool_list, it_bool_dict, it_int_bool, it_int_int, it_int_str, it_int_tuple, it_int_list, it_int_dict, it_str_bool, it_str_int, it_str_str, it_str_tuple, it_str_list, it_str_dict, it_tuple_bool, it_tuple_int, it_tuple_str, it_tuple_tuple, it_tuple_list, it_tuple_dict, it_list_bool, it_list_int, it_list_str, it_list_tuple, it_list_list, it_list_dict, it_dict_bool, it_dict_int, it_dict_str, it_dict_tuple, it_dict_list, it_dict_dict, eq_self, Bool.not_true, Bool.not_false, decide_true, decide_false, true_and, and_true, Option.some.injEq, exists_eq_left, exists_eq_left', exists_eq_right, W.bl.injEq, W.int.injEq, Bool.false_eq_true, Bool.true_eq_false, reduceCtorEq, false_and, exists_false, and_self, forall_const, false_implies, true_implies, if_true, if_false, Int.reduceLE, Int.reduceLT, Int.reduceNeg, Nat.reduceLeDiff, Nat.reduceAdd, Nat.reduceSub, String.reduceEq, String.reduceBEq, String.reduceBNe, wE_mkFX, List.lookup_cons_self, beq_self_eq_true, Option.map_some, Option.map_none, h1, hi, datWs_nil]
    have e : st.set p (.lst (([] : List Int).map W.int)) = st := set_self h1
    have := hq 0 [] (by omega) hm (by rw [e]; exact ⟨h1, by simp, by simp⟩)
    rw [e] at this; exact this
  | cons c l =>
    have hc : 0 ≤ c := h2 c List.mem_cons_self
    have hl : ∀ x ∈ l, 0 ≤ x := fun x hx => h2 x (List.mem_cons_of_mem _ hx)
    have hlen : l.length + 1 ≤ 63 := h3
    have e0 : datWs st 15 (W.int c :: l.map W.int) = some (.int c :: l.map .int) := datWs_ints st 15 (c :: l)
    try simp (config := { dsimp := false }) only [o_bl, o_slv, o_sll, o_op, o_if, o_d2, f_eq, f_ne, o_tup, o_len, o_bls, o_int, o_at, o_app, o_pop0, o_ins, o_cat, f_cnt, o_ty, o_isX, o_xf, o_cX, o_ran, o_sm, o_catchT, o_catchF, wE_oIf, gDivC, gModC, Option.isNone_none, Option.isNone_some, Option.bind_some, Bool.and_true, Bool.true_and, Bool.and_eq_true, decide_eq_true_eq, decide_eq_false_iff_not, v_catT, ln_sc, wE_ok, wE_exc, wE_bad, wE_bind, wS_nx, wS_rt, wS_bk, wS_ct, wS_exc, wS_bad, wS_bSeq, w_bNil, w_sBrk, w_sCnt, w_sIf, w_sRet, w_sRetN, w_sSet, w_sSetL, w_sExp, w_eBin, w_lBin, w_eUn, w_lUn, w_tOf, w_tAnd2, w_tOr2, w_tNot1, w_eAnd, w_eOr, w_eNot, w_eIf, w_eC, w_eTup, w_lLst, w_aNil, w_aCons, w_eIm, w_eAl, w_eCall, w_eFld, w_eM1, w_eM0, w_eM2, w_eMeth, w_ePrp, w_eNew, w_sFldW, w_sDel, w_sRaise1, v_add, v_addS, v_sub, v_mul, v_div, v_mod, v_lt, v_le, v_gt, v_ge, v_isN, v_notN, v_neg, v_int, v_intB, v_abs, v_max2, v_min2, v_eq, v_ne, v_tup, v_seqL, v_bls, v_ints, v_app, v_popAt, v_pop, v_ins, v_cat, v_cnt, w_eIsT, w_eVar, w_eIsX, w_eXf, w_eCallX, w_iRan1, w_iSeq, w_iOwn, w_lComp, w_sFor, w_for0, w_for1, w_gN, w_gSet, w_sTry, w_catch0, w_catch, w_aftX, w_sAsg, w_lCut, w_oNone, w_oSome, w_tYes, dat_cs, dat_non, dat_bl, dat_int, eqv_int, eqv_bool, eqv_cs, eqv_str, eqv_l00, eqv_l10, eqv_t00, eqv_t10, wE_mkFF, r_lstR, r_lstM, r_seqW, r_lstW, r_isL, r_insAt, r_tyW, r_srcW, r_dat, s_im, s_tup, s_lr, s_sc, l_im, l_lr, l_sc, m_im, m_lr, i_im, i_lr, i_sc, c_im, c_tup, c_sc, t_tup, t_im, t_int, t_bl, t_str, t_non, ln_ref, ln_tup, ln_im, ln_lr, ix_ref, ix_tup', ix_im, ix_lr, ix_sc, isN_ref, isN_non, isN_tup, isN_int, isN_bl, isN_str, isN_im, List.map_cons, List.map_nil, List.cons_append, List.nil_append, List.append_nil, List.getElem?_cons_zero, List.getElem?_cons_succ, List.set_cons_zero, List.set_cons_succ, List.replicate_succ, List.replicate_zero, List.length_cons, List.length_nil, List.lookup, il_int, il_bl, il_str, il_non, il_tup, il_im, il_sc, il_ref, il_cl, il_lr, ixN_zero, it_NoneType_bool, it_NoneType_int, it_NoneType_str, it_NoneType_tuple, it_NoneType_list, it_NoneType_dict, it_bool_bool, it_bool_int, it_bool_str, it_bool_tuple, it_bool_list, it_bool_dict, it_int_bool, it_int_int, it_int_str, it_int_tuple, it_int_list, it_int_dict, it_str_bool, it_str_int, it_str_str, it_str_tuple, it_str_list, it_str_dict, it_tuple_bool, it_tuple_int, it_tuple_str, it_tuple_tuple, it_tuple_list, it_tuple_dict, it_list_bool, it_list_int, it_list_str, it_list_tuple, it_list_list, it_list_dict, it_dict_bool, it_dict_int, it_dict_str, it_dict_tuple, it_dict_list, it_dict_dict, eq_self, Bool.not_true, Bool.not_false, decide_true, decide_false, true_and, and_true, Option.some.injEq, exists_eq_left, exists_eq_left', exists_eq_right, W.bl.injEq, W.int.injEq, Bool.false_eq_true, Bool.true_eq_false, reduceCtorEq, false_and, exists_false, and_self, forall_const, false_implies, true_implies, if_true, if_false, Int.reduceLE, Int.reduceLT, Int.reduceNeg, Nat.reduceLeDiff, Nat.reduceAdd, Nat.reduceSub, String.reduceEq, String.reduceBEq, String.reduceBNe, wE_mkFX, List.lookup_cons_self, beq_self_eq_true, Option.map_some, Option.map_none, h1, hi, hp', e0, List.eraseIdx_cons_zero, decide_eq_true_eq, decide_eq_false_iff_not, List.set_set, Int.toNat_zero, List.take_zero, List.drop_zero, List.length_map]
    refine ⟨⟨hm, hm2⟩, fun h => ⟨⟨hm, hm2⟩, ⟨by omega, ?_⟩⟩, fun h => ?_⟩
    · have := hq (c % m) (c / m :: l) (Int.emod_nonneg _ (by omega)) (Int.emod_lt_of_pos _ hm) ⟨hp' _, by
        intro x hx
        rcases List.mem_cons.mp hx with rfl | hx
        · omega
        · exact hl x hx, hlen⟩
      exact ⟨hm, this⟩
    · have := hq (c % m) l (Int.emod_nonneg _ (by omega)) (Int.emod_lt_of_pos _ hm) ⟨hp' _, hl, by omega⟩
      exact ⟨hm, this⟩
/-- the pool's cell -/
abbrev pl (l : List Int) : Cell := .lst (l.map W.int)
theorem number_ok {st : Store} {p : Nat} {l : List Int} {m : Int} {Q : W → Store → Prop} {E : EX} (h : IsPool st p l) (hm : 0 ≤ m) (hm2 : m < 1000000)
    (hq : ∀ r l', IsPool (st.set p (pl l')) p l' → Q (.int r) (st.set p (pl l'))) : wE (f__law_number [.ref p, .int m] st) Q E := by
  unfold f__law_number
  try simp (config := { dsimp := false }) only [o_bl, o_slv, o_sll, o_op, o_if, o_d2, f_eq, f_ne, o_tup, o_len, o_bls, o_int, o_at, o_app, o_pop0, o_ins, o_cat, f_cnt, o_ty, o_isX, o_xf, o_cX, o_ran, o_sm, o_catchT, o_catchF, wE_oIf, gDivC, gModC, Option.isNone_none, Option.isNone_some, Option.bind_some, Bool.and_true, Bool.true_and, Bool.and_eq_true, decide_eq_true_eq, decide_eq_false_iff_not, v_catT, ln_sc, wE_ok, wE_exc, wE_bad, wE_bind, wS_nx, wS_rt, wS_bk, wS_ct, wS_exc, wS_bad, wS_bSeq, w_bNil, w_sBrk, w_sCnt, w_sIf, w_sRet, w_sRetN, w_sSet, w_sSetL, w_sExp, w_eBin, w_lBin, w_eUn, w_lUn, w_tOf, w_tAnd2, w_tOr2, w_tNot1, w_eAnd, w_eOr, w_eNot, w_eIf, w_eC, w_eTup, w_lLst, w_aNil, w_aCons, w_eIm, w_eAl, w_eCall, w_eFld, w_eM1, w_eM0, w_eM2, w_eMeth, w_ePrp, w_eNew, w_sFldW, w_sDel, w_sRaise1, v_add, v_addS, v_sub, v_mul, v_div, v_mod, v_lt, v_le, v_gt, v_ge, v_isN, v_notN, v_neg, v_int, v_intB, v_abs, v_max2, v_min2, v_eq, v_ne, v_tup, v_seqL, v_bls, v_ints, v_app, v_popAt, v_pop, v_ins, v_cat, v_cnt, w_eIsT, w_eVar, w_eIsX, w_eXf, w_eCallX, w_iRan1, w_iSeq, w_iOwn, w_lComp, w_sFor, w_for0, w_for1, w_gN, w_gSet, w_sTry, w_catch0, w_catch, w_aftX, w_sAsg, w_lCut, w_oNone, w_oSome, w_tYes, dat_cs, dat_non, dat_bl, dat_int, eqv_int, eqv_bool, eqv_cs, eqv_str, eqv_l00, eqv_l10, eqv_t00, eqv_t10, wE_mkFF, r_lstR, r_lstM, r_seqW, r_lstW, r_isL, r_insAt, r_tyW, r_srcW, r_dat, s_im, s_tup, s_lr, s_sc, l_im, l_lr, l_sc, m_im, m_lr, i_im, i_lr, i_sc, c_im, c_tup, c_sc, t_tup, t_im, t_int, t_bl, t_str, t_non, ln_ref, ln_tup, ln_im, ln_lr, ix_ref, ix_tup', ix_im, ix_lr, ix_sc, isN_ref, isN_non, isN_tup, isN_int, isN_bl, isN_str, isN_im, List.map_cons, List.map_nil, List.cons_append, List.nil_append, List.append_nil, List.getElem?_cons_zero, List.getElem?_cons_succ, List.set_cons_zero, List.set_cons_succ, List.replicate_succ, List.replicate_zero, List.length_cons, List.length_nil, List.lookup, il_int, il_bl, il_str, il_non, il_tup, il_im, il_sc, il_ref, il_cl, il_lr, ixN_zero, it_NoneType_bool, it_NoneType_int, it_NoneType_str, it_NoneType_tuple, it_NoneType_list, it_NoneType_dict, it_bool_bool, it_bool_int, it_bool_str, it_bool_tuple, it_bool_list, it_bool_dict, it_int_bool, it_int_int, it_int_str, it_int_tuple, it_int_list, it_int_dict, it_str_bool, it_str_int, it_str_str, it_str_tuple, it_str_list, it_str_dict, it_tuple_bool, it_tuple_int, it_tuple_str, it_tuple_tuple, it_tuple_list, it_tuple_dict, it_list_bool, it_list_int, it_list_str, it_list_tuple, it_list_list, it_list_dict, it_dict_bool, it_dict_int, it_dict_str, it_dict_tuple, it_dict_list, it_dict_dict, eq_self, Bool.not_true, Bool.not_false, decide_true, decide_false, true_and, and_true, Option.some.injEq, exists_eq_left, exists_eq_left', exists_eq_right, W.bl.injEq, W.int.injEq, Bool.false_eq_true, Bool.true_eq_false, reduceCtorEq, false_and, exists_false, and_self, forall_const, false_implies, true_implies, if_true, if_false, Int.reduceLE, Int.reduceLT, Int.reduceNeg, Nat.reduceLeDiff, Nat.reduceAdd, Nat.reduceSub, String.reduceEq, String.reduceBEq, String.reduceBNe, wE_mkFX, List.lookup_cons_self, beq_self_eq_true, Option.map_some, Option.map_none]
  refine draw_ok h (by omega) (by omega) fun r l1 h1 h2 p1 => ?_
  try simp (config := { dsimp := false }) only [o_bl, o_slv, o_sll, o_op, o_if, o_d2, f_eq, f_ne, o_tup, o_len, o_bls, o_int, o_at, o_app, o_pop0, o_ins, o_cat, f_cnt, o_ty, o_isX, o_xf, o_cX, o_ran, o_sm, o_catchT, o_catchF, wE_oIf, gDivC, gModC, Option.isNone_none, Option.isNone_some, Option.bind_some, Bool.and_true, Bool.true_and, Bool.and_eq_true, decide_eq_true_eq, decide_eq_false_iff_not, v_catT, ln_sc, wE_ok, wE_exc, wE_bad, wE_bind, wS_nx, wS_rt, wS_bk, wS_ct, wS_exc, wS_bad, wS_bSeq, w_bNil, w_sBrk, w_sCnt, w_sIf, w_sRet, w_sRetN, w_sSet, w_sSetL, w_sExp, w_eBin, w_lBin, w_eUn, w_lUn, w_tOf, w_tAnd2, w_tOr2, w_tNot1, w_eAnd, w_eOr, w_eNot, w_eIf, w_eC, w_eTup, w_lLst, w_aNil, w_aCons, w_eIm, w_eAl, w_eCall, w_eFld, w_eM1, w_eM0, w_eM2, w_eMeth, w_ePrp, w_eNew, w_sFldW, w_sDel, w_sRaise1, v_add, v_addS, v_sub, v_mul, v_div, v_mod, v_lt, v_le, v_gt, v_ge, v_isN, v_notN, v_neg, v_int, v_intB, v_abs, v_max2, v_min2, v_eq, v_ne, v_tup, v_seqL, v_bls, v_ints, v_app, v_popAt, v_pop, v_ins, v_cat, v_cnt, w_eIsT, w_eVar, w_eIsX, w_eXf, w_eCallX, w_iRan1, w_iSeq, w_iOwn, w_lComp, w_sFor, w_for0, w_for1, w_gN, w_gSet, w_sTry, w_catch0, w_catch, w_aftX, w_sAsg, w_lCut, w_oNone, w_oSome, w_tYes, dat_cs, dat_non, dat_bl, dat_int, eqv_int, eqv_bool, eqv_cs, eqv_str, eqv_l00, eqv_l10, eqv_t00, eqv_t10, wE_mkFF, r_lstR, r_lstM, r_seqW, r_lstW, r_isL, r_insAt, r_tyW, r_srcW, r_dat, s_im, s_tup, s_lr, s_sc, l_im, l_lr, l_sc, m_im, m_lr, i_im, i_lr, i_sc, c_im, c_tup, c_sc, t_tup, t_im, t_int, t_bl, t_str, t_non, ln_ref, ln_tup, ln_im, ln_lr, ix_ref, ix_tup', ix_im, ix_lr, ix_sc, isN_ref, isN_non, isN_tup, isN_int, isN_bl, isN_str, isN_im, List.map_cons, List.map_nil, List.cons_append, List.nil_append, List.append_nil, List.getElem?_cons_zero, List.getElem?_cons_succ, List.set_cons_zero, List.set_cons_succ, List.replicate_succ, List.replicate_zero, List.length_cons, List.length_nil, List.lookup, il_int, il_bl, il_str, il_non, il_tup, il_im, il_sc, il_ref, il_cl, il_lr, ixN_zero, it_NoneType_bool, it_NoneType_int, it_NoneType_str, it_NoneType_tuple, it_NoneType_list, it_NoneType_dict, it_bool_bool, it_bool_int, it_bool_str, it_bool_tuple, it_bool_list, it_bool_dict, it_int_bool, it_int_int, it_int_str, it_int_tuple, it_int_list, it_int_dict, it_str_bool, it_str_int, it_str_str, it_str_tuple, it_str_list, it_str_dict, it_tuple_bool, it_tuple_int, it_tuple_str, it_tuple_tuple, it_tuple_list, it_tuple_dict, it_list_bool, it_list_int, it_list_str, it_list_tuple, it_list_list, it_list_dict, it_dict_bool, it_dict_int, it_dict_str, it_dict_tuple, it_dict_list, it_dict_dict, eq_self, Bool.not_true, Bool.not_false, decide_true, decide_false, true_and, and_true, Option.some.injEq, exists_eq_left, exists_eq_left', exists_eq_right, W.bl.injEq, W.int.injEq, Bool.false_eq_true, Bool.true_eq_false, reduceCtorEq, false_and, exists_false, and_self, forall_const, false_implies, true_implies, if_true, if_false, Int.reduceLE, Int.reduceLT, Int.reduceNeg, Nat.reduceLeDiff, Nat.reduceAdd, Nat.reduceSub, String.reduceEq, String.reduceBEq, String.reduceBNe, wE_mkFX, List.lookup_cons_self, beq_self_eq_true, Option.map_some, Option.map_none, decide_eq_true_eq, decide_eq_false_iff_not]
  refine ⟨fun c => ?_, fun c => ⟨fun d => ?_, fun d => ?_⟩⟩
  · refine draw_ok p1 (by omega) (by omega) fun r2 l2 h3 h4 p2 => ?_
    try simp (config := { dsimp := false }) only [o_bl, o_slv, o_sll, o_op, o_if, o_d2, f_eq, f_ne, o_tup, o_len, o_bls, o_int, o_at, o_app, o_pop0, o_ins, o_cat, f_cnt, o_ty, o_isX, o_xf, o_cX, o_ran, o_sm, o_catchT, o_catchF, wE_oIf, gDivC, gModC, Option.isNone_none, Option.isNone_some, Option.bind_some, Bool.and_true, Bool.true_and, Bool.and_eq_true, decide_eq_true_eq, decide_eq_false_iff_not, v_catT, ln_sc, wE_ok, wE_exc, wE_bad, wE_bind, wS_nx, wS_rt, wS_bk, wS_ct, wS_exc, wS_bad, wS_bSeq, w_bNil, w_sBrk, w_sCnt, w_sIf, w_sRet, w_sRetN, w_sSet, w_sSetL, w_sExp, w_eBin, w_lBin, w_eUn, w_lUn, w_tOf, w_tAnd2, w_tOr2, w_tNot1, w_eAnd, w_eOr, w_eNot, w_eIf, w_eC, w_eTup, w_lLst, w_aNil, w_aCons, w_eIm, w_eAl, w_eCall, w_eFld, w_eM1, w_eM0, w_eM2, w_eMeth, w_ePrp, w_eNew, w_sFldW, w_sDel, w_sRaise1, v_add, v_addS, v_sub, v_mul, v_div, v_mod, v_lt, v_le, v_gt, v_ge, v_isN, v_notN, v_neg, v_int, v_intB, v_abs, v_max2, v_min2, v_eq, v_ne, v_tup, v_seqL, v_bls, v_ints, v_app, v_popAt, v_pop, v_ins, v_cat, v_cnt, w_eIsT, w_eVar, w_eIsX, w_eXf, w_eCallX, w_iRan1, w_iSeq, w_iOwn, w_lComp, w_sFor, w_for0, w_for1, w_gN, w_gSet, w_sTry, w_catch0, w_catch, w_aftX, w_sAsg, w_lCut, w_oNone, w_oSome, w_tYes, dat_cs, dat_non, dat_bl, dat_int, eqv_int, eqv_bool, eqv_cs, eqv_str, eqv_l00, eqv_l10, eqv_t00, eqv_t10, wE_mkFF, r_lstR, r_lstM, r_seqW, r_lstW, r_isL, r_insAt, r_tyW, r_srcW, r_dat, s_im, s_tup, s_lr, s_sc, l_im, l_lr, l_sc, m_im, m_lr, i_im, i_lr, i_sc, c_im, c_tup, c_sc, t_tup, t_im, t_int, t_bl, t_str, t_non, ln_ref, ln_tup, ln_im, ln_lr, ix_ref, ix_tup', ix_im, ix_lr, ix_sc, isN_ref, isN_non, isN_tup, isN_int, isN_bl, isN_str, isN_im, List.map_cons, List.map_nil, List.cons_append, List.nil_append, List.append_nil, List.getElem?_cons_zero, List.getElem?_cons_succ, List.set_cons_zero, List.set_cons_succ, List.replicate_succ, List.replicate_zero, List.length_cons, List.length_nil, List.lookup, il_int, il_bl, il_str, il_non, il_tup, il_im, il_sc, il_ref, il_cl, il_lr, ixN_zero, it_NoneType_bool, it_NoneType_int, it_NoneType_str, it_NoneType_tuple, it_NoneType_list, it_NoneType_dict, it_bool_bool, it_bool_int, it_bool_str, it_bool_tuple, it_bool_list, it_bool_dict, it_int_bool, it_int_int, it_int_str, it_int_tuple, it_int_list, it_int_dict, it_str_bool, it_str_int, it_str_str, it_str_tuple, it_str_list, it_str_dict, it_tuple_bool, it_tuple_int, it_tuple_str, it_tuple_tuple, it_tuple_list, it_tuple_dict, it_list_bool, it_list_int, it_list_str, it_list_tuple, it_list_list, it_list_dict, it_dict_bool, it_dict_int, it_dict_str, it_dict_tuple, it_dict_list, it_dict_dict, eq_self, Bool.not_true, Bool.not_false, decide_true, decide_false, true_and, and_true, Option.some.injEq, exists_eq_left, exists_eq_left', exists_eq_right, W.bl.injEq, W.int.injEq, Bool.false_eq_true, Bool.true_eq_false, reduceCtorEq, false_and, exists_false, and_self, forall_const, false_implies, true_implies, if_true, if_false, Int.reduceLE, Int.reduceLT, Int.reduceNeg, Nat.reduceLeDiff, Nat.reduceAdd, Nat.reduceSub, String.reduceEq, String.reduceBEq, String.reduceBNe, wE_mkFX, List.lookup_cons_self, beq_self_eq_true, Option.map_some, Option.map_none, List.set_set] at p2 ⊢
    exact ⟨by omega, hq _ _ p2⟩
  · refine draw_ok p1 (by omega) (by omega) fun r2 l2 h3 h4 p2 => ?_
    try simp (config := { dsimp := false }) only [o_bl, o_slv, o_sll, o_op, o_if, o_d2, f_eq, f_ne, o_tup, o_len, o_bls, o_int, o_at, o_app, o_pop0, o_ins, o_cat, f_cnt, o_ty, o_isX, o_xf, o_cX, o_ran, o_sm, o_catchT, o_catchF, wE_oIf, gDivC, gModC, Option.isNone_none, Option.isNone_some, Option.bind_some, Bool.and_true, Bool.true_and, Bool.and_eq_true, decide_eq_true_eq, decide_eq_false_iff_not, v_catT, ln_sc, wE_ok, wE_exc, wE_bad, wE_bind, wS_nx, wS_rt, wS_bk, wS_ct, wS_exc, wS_bad, wS_bSeq, w_bNil, w_sBrk, w_sCnt, w_sIf, w_sRet, w_sRetN, w_sSet, w_sSetL, w_sExp, w_eBin, w_lBin, w_eUn, w_lUn, w_tOf, w_tAnd2, w_tOr2, w_tNot1, w_eAnd, w_eOr, w_eNot, w_eIf, w_eC, w_eTup, w_lLst, w_aNil, w_aCons, w_eIm, w_eAl, w_eCall, w_eFld, w_eM1, w_eM0, w_eM2, w_eMeth, w_ePrp, w_eNew, w_sFldW, w_sDel, w_sRaise1, v_add, v_addS, v_sub, v_mul, v_div, v_mod, v_lt, v_le, v_gt, v_ge, v_isN, v_notN, v_neg, v_int, v_intB, v_abs, v_max2, v_min2, v_eq, v_ne, v_tup, v_seqL, v_bls, v_ints, v_app, v_popAt, v_pop, v_ins, v_cat, v_cnt, w_eIsT, w_eVar, w_eIsX, w_eXf, w_eCallX, w_iRan1, w_iSeq, w_iOwn, w_lComp, w_sFor, w_for0, w_for1, w_gN, w_gSet, w_sTry, w_catch0, w_catch, w_aftX, w_sAsg, w_lCut, w_oNone, w_oSome, w_tYes, dat_cs, dat_non, dat_bl, dat_int, eqv_int, eqv_bool, eqv_cs, eqv_str, eqv_l00, eqv_l10, eqv_t00, eqv_t10, wE_mkFF, r_lstR, r_lstM, r_seqW, r_lstW, r_isL, r_insAt, r_tyW, r_srcW, r_dat, s_im, s_tup, s_lr, s_sc, l_im, l_lr, l_sc, m_im, m_lr, i_im, i_lr, i_sc, c_im, c_tup, c_sc, t_tup, t_im, t_int, t_bl, t_str, t_non, ln_ref, ln_tup, ln_im, ln_lr, ix_ref, ix_tup', ix_im, ix_lr, ix_sc, isN_ref, isN_non, isN_tup, isN_int, isN_bl, isN_str, isN_im, List.map_cons, List.map_nil, List.cons_append, List.nil_append, List.append_nil, List.getElem?_cons_zero, List.getElem?_cons_succ, List.set_cons_zero, List.set_cons_succ, List.replicate_succ, List.replicate_zero, List.length_cons, List.length_nil, List.lookup, il_int, il_bl, il_str, il_non, il_tup, il_im, il_sc, il_ref, il_cl, il_lr, ixN_zero, it_NoneType_bool, it_NoneType_int, it_NoneType_str, it_NoneType_tuple, it_NoneType_list, it_NoneType_dict, it_bool_bool, it_bool_int, it_bool_str, it_bool_tuple, it_bool_list, it_bool_dict, it_int_bool, it_int_int, it_int_str, it_int_tuple, it_int_list, it_int_dict, it_str_bool, it_str_int, it_str_str, it_str_tuple, it_str_list, it_str_dict, it_tuple_bool, it_tuple_int, it_tuple_str, it_tuple_tuple, it_tuple_list, it_tuple_dict, it_list_bool, it_list_int, it_list_str, it_list_tuple, it_list_list, it_list_dict, it_dict_bool, it_dict_int, it_dict_str, it_dict_tuple, it_dict_list, it_dict_dict, eq_self, Bool.not_true, Bool.not_false, decide_true, decide_false, true_and, and_true, Option.some.injEq, exists_eq_left, exists_eq_left', exists_eq_right, W.bl.injEq, W.int.injEq, Bool.false_eq_true, Bool.true_eq_false, reduceCtorEq, false_and, exists_false, and_self, forall_const, false_implies, true_implies, if_true, if_false, Int.reduceLE, Int.reduceLT, Int.reduceNeg, Nat.reduceLeDiff, Nat.reduceAdd, Nat.reduceSub, String.reduceEq, String.reduceBEq, String.reduceBNe, wE_mkFX, List.lookup_cons_self, beq_self_eq_true, Option.map_some, Option.map_none, List.set_set] at p2 ⊢
    exact hq _ _ p2
  · exact hq _ _ p1
def IsLetter (w : W) : Prop := ∃ (s : String) (ns : List Int), (s = "bid" ∨ s = "told") ∧ w = .tup (.str (cs s) :: ns.map W.int) ∧ 1 ≤ ns.length ∧ ns.length ≤ 10
theorem letter_ok {st : Store} {p : Nat} {l : List Int} {Q : W → Store → Prop} {E : EX} (h : IsPool st p l)
    (hq : ∀ w l', IsLetter w → IsPool (st.set p (pl l')) p l' → Q w (st.set p (pl l'))) : wE (f__law_letter [.ref p] st) Q E := by
  unfold f__law_letter
  try simp (config := { dsimp := false }) only [o_bl, o_slv, o_sll, o_op, o_if, o_d2, f_eq, f_ne, o_tup, o_len, o_bls, o_int, o_at, o_app, o_pop0, o_ins, o_cat, f_cnt, o_ty, o_isX, o_xf, o_cX, o_ran, o_sm, o_catchT, o_catchF, wE_oIf, gDivC, gModC, Option.isNone_none, Option.isNone_some, Option.bind_some, Bool.and_true, Bool.true_and, Bool.and_eq_true, decide_eq_true_eq, decide_eq_false_iff_not, v_catT, ln_sc, wE_ok, wE_exc, wE_bad, wE_bind, wS_nx, wS_rt, wS_bk, wS_ct, wS_exc, wS_bad, wS_bSeq, w_bNil, w_sBrk, w_sCnt, w_sIf, w_sRet, w_sRetN, w_sSet, w_sSetL, w_sExp, w_eBin, w_lBin, w_eUn, w_lUn, w_tOf, w_tAnd2, w_tOr2, w_tNot1, w_eAnd, w_eOr, w_eNot, w_eIf, w_eC, w_eTup, w_lLst, w_aNil, w_aCons, w_eIm, w_eAl, w_eCall, w_eFld, w_eM1, w_eM0, w_eM2, w_eMeth, w_ePrp, w_eNew, w_sFldW, w_sDel, w_sRaise1, v_add, v_addS, v_sub, v_mul, v_div, v_mod, v_lt, v_le, v_gt, v_ge, v_isN, v_notN, v_neg, v_int, v_intB, v_abs, v_max2, v_min2, v_eq, v_ne, v_tup, v_seqL, v_bls, v_ints, v_app, v_popAt, v_pop, v_ins, v_cat, v_cnt, w_eIsT, w_eVar, w_eIsX, w_eXf, w_eCallX, w_iRan1, w_iSeq, w_iOwn, w_lComp, w_sFor, w_for0, w_for1, w_gN, w_gSet, w_sTry, w_catch0, w_catch, w_aftX, w_sAsg, w_lCut, w_oNone, w_oSome, w_tYes, dat_cs, dat_non, dat_bl, dat_int, eqv_int, eqv_bool, eqv_cs, eqv_str, eqv_l00, eqv_l10, eqv_t00, eqv_t10, wE_mkFF, r_lstR, r_lstM, r_seqW, r_lstW, r_isL, r_insAt, r_tyW, r_srcW, r_dat, s_im, s_tup, s_lr, s_sc, l_im, l_lr, l_sc, m_im, m_lr, i_im, i_lr, i_sc, c_im, c_tup, c_sc, t_tup, t_im, t_int, t_bl, t_str, t_non, ln_ref, ln_tup, ln_im, ln_lr, ix_ref, ix_tup', ix_im, ix_lr, ix_sc, isN_ref, isN_non, isN_tup, isN_int, isN_bl, isN_str, isN_im, List.map_cons, List.map_nil, List.cons_append, List.nil_append, List.append_nil, List.getElem?_cons_zero, List.getElem?_cons_succ, List.set_cons_zero, List.set_cons_succ, List.replicate_succ, List.replicate_zero, List.length_cons, List.length_nil, List.lookup, il_int, il_bl, il_str, il_non, il_tup, il_im, il_sc, il_ref, il_cl, il_lr, ixN_zero, it_NoneType_bool, it_NoneType_int, it_NoneType_str, it_NoneType_tuple, it_NoneType_list, it_NoneType_dict, it_bool_bool, it_bool_int, it_bool_str, it_bool_tuple, it_bool_list, it_bool_dict, it_int_bool, it_int_int, it_int_str, it_int_tuple, it_int_list, it_int_dict, it_str_bool, it_str_int, it_str_str, it_str_tuple, it_str_list, it_str_dict, it_tuple_bool, it_tuple_int, it_tuple_str, it_tuple_tuple, it_tuple_list, it_tuple_dict, it_list_bool, it_list_int, it_list_str, it_list_tuple, it_list_list, it_list_dict, it_dict_bool, it_dict_int, it_dict_str, it_dict_tuple, it_dict_list, it_dict_dict, eq_self, Bool.not_true, Bool.not_false, decide_true, decide_false, true_and, and_true, Option.some.injEq, exists_eq_left, exists_eq_left', exists_eq_right, W.bl.injEq, W.int.injEq, Bool.false_eq_true, Bool.true_eq_false, reduceCtorEq, false_and, exists_false, and_self, forall_const, false_implies, true_implies, if_true, if_false, Int.reduceLE, Int.reduceLT, Int.reduceNeg, Nat.reduceLeDiff, Nat.reduceAdd, Nat.reduceSub, String.reduceEq, String.reduceBEq, String.reduceBNe, wE_mkFX, List.lookup_cons_self, beq_self_eq_true, Option.map_some, Option.map_none]
  refine number_ok h (by omega) (by omega) fun r1 l1 p1 => ?_
  try simp (config := { dsimp := false }) only [o_bl, o_slv, o_sll, o_op, o_if, o_d2, f_eq, f_ne, o_tup, o_len, o_bls, o_int, o_at, o_app, o_pop0, o_ins, o_cat, f_cnt, o_ty, o_isX, o_xf, o_cX, o_ran, o_sm, o_catchT, o_catchF, wE_oIf, gDivC, gModC, Option.isNone_none, Option.isNone_some, Option.bind_some, Bool.and_true, Bool.true_and, Bool.and_eq_true, decide_eq_true_eq, decide_eq_false_iff_not, v_catT, ln_sc, wE_ok, wE_exc, wE_bad, wE_bind, wS_nx, wS_rt, wS_bk, wS_ct, wS_exc, wS_bad, wS_bSeq, w_bNil, w_sBrk, w_sCnt, w_sIf, w_sRet, w_sRetN, w_sSet, w_sSetL, w_sExp, w_eBin, w_lBin, w_eUn, w_lUn, w_tOf, w_tAnd2, w_tOr2, w_tNot1, w_eAnd, w_eOr, w_eNot, w_eIf, w_eC, w_eTup, w_lLst, w_aNil, w_aCons, w_eIm, w_eAl, w_eCall, w_eFld, w_eM1, w_eM0, w_eM2, w_eMeth, w_ePrp, w_eNew, w_sFldW, w_sDel, w_sRaise1, v_add, v_addS, v_sub, v_mul, v_div, v_mod, v_lt, v_le, v_gt, v_ge, v_isN, v_notN, v_neg, v_int, v_intB, v_abs, v_max2, v_min2, v_eq, v_ne, v_tup, v_seqL, v_bls, v_ints, v_app, v_popAt, v_pop, v_ins, v_cat, v_cnt, w_eIsT, w_eVar, w_eIsX, w_eXf, w_eCallX, w_iRan1, w_iSeq, w_iOwn, w_lComp, w_sFor, w_for0, w_for1, w_gN, w_gSet, w_sTry, w_catch0, w_catch, w_aftX, w_sAsg, w_lCut, w_oNone, w_oSome, w_tYes, dat_cs, dat_non, dat_bl, dat_int, eqv_int, eqv_bool, eqv_cs, eqv_str, eqv_l00, eqv_l10, eqv_t00, eqv_t10, wE_mkFF, r_lstR, r_lstM, r_seqW, r_lstW, r_isL, r_insAt, r_tyW, r_srcW, r_dat, s_im, s_tup, s_lr, s_sc, l_im, l_lr, l_sc, m_im, m_lr, i_im, i_lr, i_sc, c_im, c_tup, c_sc, t_tup, t_im, t_int, t_bl, t_str, t_non, ln_ref, ln_tup, ln_im, ln_lr, ix_ref, ix_tup', ix_im, ix_lr, ix_sc, isN_ref, isN_non, isN_tup, isN_int, isN_bl, isN_str, isN_im, List.map_cons, List.map_nil, List.cons_append, List.nil_append, List.append_nil, List.getElem?_cons_zero, List.getElem?_cons_succ, List.set_cons_zero, List.set_cons_succ, List.replicate_succ, List.replicate_zero, List.length_cons, List.length_nil, List.lookup, il_int, il_bl, il_str, il_non, il_tup, il_im, il_sc, il_ref, il_cl, il_lr, ixN_zero, it_NoneType_bool, it_NoneType_int, it_NoneType_str, it_NoneType_tuple, it_NoneType_list, it_NoneType_dict, it_bool_bool, it_bool_int, it_bool_str, it_bool_tuple, it_bool_list, it_bool_dict, it_int_bool, it_int_int, it_int_str, it_int_tuple, it_int_list, it_int_dict, it_str_bool, it_str_int, it_str_str, it_str_tuple, it_str_list, it_str_dict, it_tuple_bool, it_tuple_int, it_tuple_str, it_tuple_tuple, it_tuple_list, it_tuple_dict, it_list_bool, it_list_int, it_list_str, it_list_tuple, it_list_list, it_list_dict, it_dict_bool, it_dict_int, it_dict_str, it_dict_tuple, it_dict_list, it_dict_dict, eq_self, Bool.not_true, Bool.not_false, decide_true, decide_false, true_and, and_true, Option.some.injEq, exists_eq_left, exists_eq_left', exists_eq_right, W.bl.injEq, W.int.injEq, Bool.false_eq_true, Bool.true_eq_false, reduceCtorEq, false_and, exists_false, and_self, forall_const, false_implies, true_implies, if_true, if_false, Int.reduceLE, Int.reduceLT, Int.reduceNeg, Nat.reduceLeDiff, Nat.reduceAdd, Nat.reduceSub, String.reduceEq, String.reduceBEq, String.reduceBNe, wE_mkFX, List.lookup_cons_self, beq_self_eq_true, Option.map_some, Option.map_none]
  refine number_ok p1 (by omega) (by omega) fun r2 l2 p2 => ?_
  try simp (config := { dsimp := false }) only [o_bl, o_slv, o_sll, o_op, o_if, o_d2, f_eq, f_ne, o_tup, o_len, o_bls, o_int, o_at, o_app, o_pop0, o_ins, o_cat, f_cnt, o_ty, o_isX, o_xf, o_cX, o_ran, o_sm, o_catchT, o_catchF, wE_oIf, gDivC, gModC, Option.isNone_none, Option.isNone_some, Option.bind_some, Bool.and_true, Bool.true_and, Bool.and_eq_true, decide_eq_true_eq, decide_eq_false_iff_not, v_catT, ln_sc, wE_ok, wE_exc, wE_bad, wE_bind, wS_nx, wS_rt, wS_bk, wS_ct, wS_exc, wS_bad, wS_bSeq, w_bNil, w_sBrk, w_sCnt, w_sIf, w_sRet, w_sRetN, w_sSet, w_sSetL, w_sExp, w_eBin, w_lBin, w_eUn, w_lUn, w_tOf, w_tAnd2, w_tOr2, w_tNot1, w_eAnd, w_eOr, w_eNot, w_eIf, w_eC, w_eTup, w_lLst, w_aNil, w_aCons, w_eIm, w_eAl, w_eCall, w_eFld, w_eM1, w_eM0, w_eM2, w_eMeth, w_ePrp, w_eNew, w_sFldW, w_sDel, w_sRaise1, v_add, v_addS, v_sub, v_mul, v_div, v_mod, v_lt, v_le, v_gt, v_ge, v_isN, v_notN, v_neg, v_int, v_intB, v_abs, v_max2, v_min2, v_eq, v_ne, v_tup, v_seqL, v_bls, v_ints, v_app, v_popAt, v_pop, v_ins, v_cat, v_cnt, w_eIsT, w_eVar, w_eIsX, w_eXf, w_eCallX, w_iRan1, w_iSeq, w_iOwn, w_lComp, w_sFor, w_for0, w_for1, w_gN, w_gSet, w_sTry, w_catch0, w_catch, w_aftX, w_sAsg, w_lCut, w_oNone, w_oSome, w_tYes, dat_cs, dat_non, dat_bl, dat_int, eqv_int, eqv_bool, eqv_cs, eqv_str, eqv_l00, eqv_l10, eqv_t00, eqv_t10, wE_mkFF, r_lstR, r_lstM, r_seqW, r_lstW, r_isL, r_insAt, r_tyW, r_srcW, r_dat, s_im, s_tup, s_lr, s_sc, l_im, l_lr, l_sc, m_im, m_lr, i_im, i_lr, i_sc, c_im, c_tup, c_sc, t_tup, t_im, t_int, t_bl, t_str, t_non, ln_ref, ln_tup, ln_im, ln_lr, ix_ref, ix_tup', ix_im, ix_lr, ix_sc, isN_ref, isN_non, isN_tup, isN_int, isN_bl, isN_str, isN_im, List.map_cons, List.map_nil, List.cons_append, List.nil_append, List.append_nil, List.getElem?_cons_zero, List.getElem?_cons_succ, List.set_cons_zero, List.set_cons_succ, List.replicate_succ, List.replicate_zero, List.length_cons, List.length_nil, List.lookup, il_int, il_bl, il_str, il_non, il_tup, il_im, il_sc, il_ref, il_cl, il_lr, ixN_zero, it_NoneType_bool, it_NoneType_int, it_NoneType_str, it_NoneType_tuple, it_NoneType_list, it_NoneType_dict, it_bool_bool, it_bool_int, it_bool_str, it_bool_tuple, it_bool_list, it_bool_dict, it_int_bool, it_int_int, it_int_str, it_int_tuple, it_int_list, it_int_dict, it_str_bool, it_str_int, it_str_str, it_str_tuple, it_str_list, it_str_dict, it_tuple_bool, it_tuple_int, it_tuple_str, it_tuple_tuple, it_tuple_list, it_tuple_dict, it_list_bool, it_list_int, it_list_str, it_list_tuple, it_list_list, it_list_dict, it_dict_bool, it_dict_int, it_dict_str, it_dict_tuple, it_dict_list, it_dict_dict, eq_self, Bool.not_true, Bool.not_false, decide_true, decide_false, true_and, and_true, Option.some.injEq, exists_eq_left, exists_eq_left', exists_eq_right, W.bl.injEq, W.int.injEq, Bool.false_eq_true, Bool.true_eq_false, reduceCtorEq, false_and, exists_false, and_self, forall_const, false_implies, true_implies, if_true, if_false, Int.reduceLE, Int.reduceLT, Int.reduceNeg, Nat.reduceLeDiff, Nat.reduceAdd, Nat.reduceSub, String.reduceEq, String.reduceBEq, String.reduceBNe, wE_mkFX, List.lookup_cons_self, beq_self_eq_true, Option.map_some, Option.map_none, List.set_set] at p2 ⊢
  refine number_ok p2 (by omega) (by omega) fun r3 l3 p3 => ?_
  try simp (config := { dsimp := false }) only [o_bl, o_slv, o_sll, o_op, o_if, o_d2, f_eq, f_ne, o_tup, o_len, o_bls, o_int, o_at, o_app, o_pop0, o_ins, o_cat, f_cnt, o_ty, o_isX, o_xf, o_cX, o_ran, o_sm, o_catchT, o_catchF, wE_oIf, gDivC, gModC, Option.isNone_none, Option.isNone_some, Option.bind_some, Bool.and_true, Bool.true_and, Bool.and_eq_true, decide_eq_true_eq, decide_eq_false_iff_not, v_catT, ln_sc, wE_ok, wE_exc, wE_bad, wE_bind, wS_nx, wS_rt, wS_bk, wS_ct, wS_exc, wS_bad, wS_bSeq, w_bNil, w_sBrk, w_sCnt, w_sIf, w_sRet, w_sRetN, w_sSet, w_sSetL, w_sExp, w_eBin, w_lBin, w_eUn, w_lUn, w_tOf, w_tAnd2, w_tOr2, w_tNot1, w_eAnd, w_eOr, w_eNot, w_eIf, w_eC, w_eTup, w_lLst, w_aNil, w_aCons, w_eIm, w_eAl, w_eCall, w_eFld, w_eM1, w_eM0, w_eM2, w_eMeth, w_ePrp, w_eNew, w_sFldW, w_sDel, w_sRaise1, v_add, v_addS, v_sub, v_mul, v_div, v_mod, v_lt, v_le, v_gt, v_ge, v_isN, v_notN, v_neg, v_int, v_intB, v_abs, v_max2, v_min2, v_eq, v_ne, v_tup, v_seqL, v_bls, v_ints, v_app, v_popAt, v_pop, v_ins, v_cat, v_cnt, w_eIsT, w_eVar, w_eIsX, w_eXf, w_eCallX, w_iRan1, w_iSeq, w_iOwn, w_lComp, w_sFor, w_for0, w_for1, w_gN, w_gSet, w_sTry, w_catch0, w_catch, w_aftX, w_sAsg, w_lCut, w_oNone, w_oSome, w_tYes, dat_cs, dat_non, dat_bl, dat_int, eqv_int, eqv_bool, eqv_cs, eqv_str, eqv_l00, eqv_l10, eqv_t00, eqv_t10, wE_mkFF, r_lstR, r_lstM, r_seqW, r_lstW, r_isL, r_insAt, r_tyW, r_srcW, r_dat, s_im, s_tup, s_lr, s_sc, l_im, l_lr, l_sc, m_im, m_lr, i_im, i_lr, i_sc, c_im, c_tup, c_sc, t_tup, t_im, t_int, t_bl, t_str, t_non, ln_ref, ln_tup, ln_im, ln_lr, ix_ref, ix_tup', ix_im, ix_lr, ix_sc, isN_ref, isN_non, isN_tup, isN_int, isN_bl, isN_str, isN_im, List.map_cons, List.map_nil, List.cons_append, List.nil_append, List.append_nil, List.getElem?_cons_zero, List.getElem?_cons_succ, List.set_cons_zero, List.set_cons_succ, List.replicate_succ, List.replicate_zero, List.length_cons, List.length_nil, List.lookup, il_int, il_bl, il_str, il_non, il_tup, il_im, il_sc, il_ref, il_cl, il_lr, ixN_zero, it_NoneType_bool, it_NoneType_int, it_NoneType_str, it_NoneType_tuple, it_NoneType_list, it_NoneType_dict, it_bool_bool, it_bool_int, it_bool_str, it_bool_tuple, it_bool_list, it_bool_dict, it_int_bool, it_int_int, it_int_str, it_int_tuple, it_int_list, it_int_dict, it_str_bool, it_str_int, it_str_str, it_str_tuple, it_str_list, it_str_dict, it_tuple_bool, it_tuple_int, it_tuple_str, it_tuple_tuple, it_tuple_list, it_tuple_dict, it_list_bool, it_list_int, it_list_str, it_list_tuple, it_list_list, it_list_dict, it_dict_bool, it_dict_int, it_dict_str, it_dict_tuple, it_dict_list, it_dict_dict, eq_self, Bool.not_true, Bool.not_false, decide_true, decide_false, true_and, and_true, Option.some.injEq, exists_eq_left, exists_eq_left', exists_eq_right, W.bl.injEq, W.int.injEq, Bool.false_eq_true, Bool.true_eq_false, reduceCtorEq, false_and, exists_false, and_self, forall_const, false_implies, true_implies, if_true, if_false, Int.reduceLE, Int.reduceLT, Int.reduceNeg, Nat.reduceLeDiff, Nat.reduceAdd, Nat.reduceSub, String.reduceEq, String.reduceBEq, String.reduceBNe, wE_mkFX, List.lookup_cons_self, beq_self_eq_true, Option.map_some, Option.map_none, List.set_set] at p3 ⊢
  refine number_ok p3 (by omega) (by omega) fun r4 l4 p4 => ?_
  try simp (config := { dsimp := false }) only [o_bl, o_slv, o_sll, o_op, o_if, o_d2, f_eq, f_ne, o_tup, o_len, o_bls, o_int, o_at, o_app, o_pop0, o_ins, o_cat, f_cnt, o_ty, o_isX, o_xf, o_cX, o_ran, o_sm, o_catchT, o_catchF, wE_oIf, gDivC, gModC, Option.isNone_none, Option.isNone_some, Option.bind_some, Bool.and_true, Bool.true_and, Bool.and_eq_true, decide_eq_true_eq, decide_eq_false_iff_not, v_catT, ln_sc, wE_ok, wE_exc, wE_bad, wE_bind, wS_nx, wS_rt, wS_bk, wS_ct, wS_exc, wS_bad, wS_bSeq, w_bNil, w_sBrk, w_sCnt, w_sIf, w_sRet, w_sRetN, w_sSet, w_sSetL, w_sExp, w_eBin, w_lBin, w_eUn, w_lUn, w_tOf, w_tAnd2, w_tOr2, w_tNot1, w_eAnd, w_eOr, w_eNot, w_eIf, w_eC, w_eTup, w_lLst, w_aNil, w_aCons, w_eIm, w_eAl, w_eCall, w_eFld, w_eM1, w_eM0, w_eM2, w_eMeth, w_ePrp, w_eNew, w_sFldW, w_sDel, w_sRaise1, v_add, v_addS, v_sub, v_mul, v_div, v_mod, v_lt, v_le, v_gt, v_ge, v_isN, v_notN, v_neg, v_int, v_intB, v_abs, v_max2, v_min2, v_eq, v_ne, v_tup, v_seqL, v_bls, v_ints, v_app, v_popAt, v_pop, v_ins, v_cat, v_cnt, w_eIsT, w_eVar, w_eIsX, w_eXf, w_eCallX, w_iRan1, w_iSeq, w_iOwn, w_lComp, w_sFor, w_for0, w_for1, w_gN, w_gSet, w_sTry, w_catch0, w_catch, w_aftX, w_sAsg, w_lCut, w_oNone, w_oSome, w_tYes, dat_cs, dat_non, dat_bl, dat_int, eqv_int, eqv_bool, eqv_cs, eqv_str, eqv_l00, eqv_l10, eqv_t00, eqv_t10, wE_mkFF, r_lstR, r_lstM, r_seqW, r_lstW, r_isL, r_insAt, r_tyW, r_srcW, r_dat, s_im, s_tup, s_lr, s_sc, l_im, l_lr, l_sc, m_im, m_lr, i_im, i_lr, i_sc, c_im, c_tup, c_sc, t_tup, t_im, t_int, t_bl, t_str, t_non, ln_ref, ln_tup, ln_im, ln_lr, ix_ref, ix_tup', ix_im, ix_lr, ix_sc, isN_ref, isN_non, isN_tup, isN_int, isN_bl, isN_str, isN_im, List.map_cons, List.map_nil, List.cons_append, List.nil_append, List.append_nil, List.getElem?_cons_zero, List.getElem?_cons_succ, List.set_cons_zero, List.set_cons_succ, List.replicate_succ, List.replicate_zero, List.length_cons, List.length_nil, List.lookup, il_int, il_bl, il_str, il_non, il_tup, il_im, il_sc, il_ref, il_cl, il_lr, ixN_zero, it_NoneType_bool, it_NoneType_int, it_NoneType_str, it_NoneType_tuple, it_NoneType_list, it_NoneType_dict, it_bool_bool, it_bool_int, it_bool_str, it_bool_tuple, it_bool_list, it_bool_dict, it_int_bool, it_int_int, it_int_str, it_int_tuple, it_int_list, it_int_dict, it_str_bool, it_str_int, it_str_str, it_str_tuple, it_str_list, it_str_dict, it_tuple_bool, it_tuple_int, it_tuple_str, it_tuple_tuple, it_tuple_list, it_tuple_dict, it_list_bool, it_list_int, it_list_str, it_list_tuple, it_list_list, it_list_dict, it_dict_bool, it_dict_int, it_dict_str, it_dict_tuple, it_dict_list, it_dict_dict, eq_self, Bool.not_true, Bool.not_false, decide_true, decide_false, true_and, and_true, Option.some.injEq, exists_eq_left, exists_eq_left', exists_eq_right, W.bl.injEq, W.int.injEq, Bool.false_eq_true, Bool.true_eq_false, reduceCtorEq, false_and, exists_false, and_self, forall_const, false_implies, true_implies, if_true, if_false, Int.reduceLE, Int.reduceLT, Int.reduceNeg, Nat.reduceLeDiff, Nat.reduceAdd, Nat.reduceSub, String.reduceEq, String.reduceBEq, String.reduceBNe, wE_mkFX, List.lookup_cons_self, beq_self_eq_true, Option.map_some, Option.map_none, List.set_set] at p4 ⊢
  refine draw_ok p4 (by omega) (by omega) fun r5 l5 _ _ p5 => ?_
  try simp (config := { dsimp := false }) only [o_bl, o_slv, o_sll, o_op, o_if, o_d2, f_eq, f_ne, o_tup, o_len, o_bls, o_int, o_at, o_app, o_pop0, o_ins, o_cat, f_cnt, o_ty, o_isX, o_xf, o_cX, o_ran, o_sm, o_catchT, o_catchF, wE_oIf, gDivC, gModC, Option.isNone_none, Option.isNone_some, Option.bind_some, Bool.and_true, Bool.true_and, Bool.and_eq_true, decide_eq_true_eq, decide_eq_false_iff_not, v_catT, ln_sc, wE_ok, wE_exc, wE_bad, wE_bind, wS_nx, wS_rt, wS_bk, wS_ct, wS_exc, wS_bad, wS_bSeq, w_bNil, w_sBrk, w_sCnt, w_sIf, w_sRet, w_sRetN, w_sSet, w_sSetL, w_sExp, w_eBin, w_lBin, w_eUn, w_lUn, w_tOf, w_tAnd2, w_tOr2, w_tNot1, w_eAnd, w_eOr, w_eNot, w_eIf, w_eC, w_eTup, w_lLst, w_aNil, w_aCons, w_eIm, w_eAl, w_eCall, w_eFld, w_eM1, w_eM0, w_eM2, w_eMeth, w_ePrp, w_eNew, w_sFldW, w_sDel, w_sRaise1, v_add, v_addS, v_sub, v_mul, v_div, v_mod, v_lt, v_le, v_gt, v_ge, v_isN, v_notN, v_neg, v_int, v_intB, v_abs, v_max2, v_min2, v_eq, v_ne, v_tup, v_seqL, v_bls, v_ints, v_app, v_popAt, v_pop, v_ins, v_cat, v_cnt, w_eIsT, w_eVar, w_eIsX, w_eXf, w_eCallX, w_iRan1, w_iSeq, w_iOwn, w_lComp, w_sFor, w_for0, w_for1, w_gN, w_gSet, w_sTry, w_catch0, w_catch, w_aftX, w_sAsg, w_lCut, w_oNone, w_oSome, w_tYes, dat_cs, dat_non, dat_bl, dat_int, eqv_int, eqv_bool, eqv_cs, eqv_str, eqv_l00, eqv_l10, eqv_t00, eqv_t10, wE_mkFF, r_lstR, r_lstM, r_seqW, r_lstW, r_isL, r_insAt, r_tyW, r_srcW, r_dat, s_im, s_tup, s_lr, s_sc, l_im, l_lr, l_sc, m_im, m_lr, i_im, i_lr, i_sc, c_im, c_tup, c_sc, t_tup, t_im, t_int, t_bl, t_str, t_non, ln_ref, ln_tup, ln_im, ln_lr, ix_ref, ix_tup', ix_im, ix_lr, ix_sc, isN_ref, isN_non, isN_tup, isN_int, isN_bl, isN_str, isN_im, List.map_cons, List.map_nil, List.cons_append, List.nil_append, List.append_nil, List.getElem?_cons_zero, List.getElem?_cons_succ, List.set_cons_zero, List.set_cons_succ, List.replicate_succ, List.replicate_zero, List.length_cons, List.length_nil, List.lookup, il_int, il_bl, il_str, il_non, il_tup, il_im, il_sc, il_ref, il_cl, il_lr, ixN_zero, it_NoneType_bool, it_NoneType_int, it_NoneType_str, it_NoneType_tuple, it_NoneType_list, it_NoneType_dict, it_bool_bool, it_bool_int, it_bool_str, it_bool_tuple, it_bool_list, it_bool_dict, it_int_bool, it_int_int, it_int_str, it_int_tuple, it_int_list, it_int_dict, it_str_bool, it_str_int, it_str_str, it_str_tuple, it_str_list, it_str_dict, it_tuple_bool, it_tuple_int, it_tuple_str, it_tuple_tuple, it_tuple_list, it_tuple_dict, it_list_bool, it_list_int, it_list_str, it_list_tuple, it_list_list, it_list_dict, it_dict_bool, it_dict_int, it_dict_str, it_dict_tuple, it_dict_list, it_dict_dict, eq_self, Bool.not_true, Bool.not_false, decide_true, decide_false, true_and, and_true, Option.some.injEq, exists_eq_left, exists_eq_left', exists_eq_right, W.bl.injEq, W.int.injEq, Bool.false_eq_true, Bool.true_eq_false, reduceCtorEq, false_and, exists_false, and_self, forall_const, false_implies, true_implies, if_true, if_false, Int.reduceLE, Int.reduceLT, Int.reduceNeg, Nat.reduceLeDiff, Nat.reduceAdd, Nat.reduceSub, String.reduceEq, String.reduceBEq, String.reduceBNe, wE_mkFX, List.lookup_cons_self, beq_self_eq_true, Option.map_some, Option.map_none, List.set_set, decide_eq_true_eq, decide_eq_false_iff_not] at p5 ⊢
  refine ⟨fun c => ?_, fun c => ?_⟩
  · exact hq _ _ ⟨"bid", [r1, r2, r3, r4], .inl rfl, rfl, by simp, by simp⟩ p5
  · refine draw_ok p5 (by omega) (by omega) fun r6 l6 _ _ p6 => ?_
    try simp (config := { dsimp := false }) only [o_bl, o_slv, o_sll, o_op, o_if, o_d2, f_eq, f_ne, o_tup, o_len, o_bls, o_int, o_at, o_app, o_pop0, o_ins, o_cat, f_cnt, o_ty, o_isX, o_xf, o_cX, o_ran, o_sm, o_catchT, o_catchF, wE_oIf, gDivC, gModC, Option.isNone_none, Option.isNone_some, Option.bind_some, Bool.and_true, Bool.true_and, Bool.and_eq_true, decide_eq_true_eq, decide_eq_false_iff_not, v_catT, ln_sc, wE_ok, wE_exc, wE_bad, wE_bind, wS_nx, wS_rt, wS_bk, wS_ct, wS_exc, wS_bad, wS_bSeq, w_bNil, w_sBrk, w_sCnt, w_sIf, w_sRet, w_sRetN, w_sSet, w_sSetL, w_sExp, w_eBin, w_lBin, w_eUn, w_lUn, w_tOf, w_tAnd2, w_tOr2, w_tNot1, w_eAnd, w_eOr, w_eNot, w_eIf, w_eC, w_eTup, w_lLst, w_aNil, w_aCons, w_eIm, w_eAl, w_eCall, w_eFld, w_eM1, w_eM0, w_eM2, w_eMeth, w_ePrp, w_eNew, w_sFldW, w_sDel, w_sRaise1, v_add, v_addS, v_sub, v_mul, v_div, v_mod, v_lt, v_le, v_gt, v_ge, v_isN, v_notN, v_neg, v_int, v_intB, v_abs, v_max2, v_min2, v_eq, v_ne, v_tup, v_seqL, v_bls, v_ints, v_app, v_popAt, v_pop, v_ins, v_cat, v_cnt, w_eIsT, w_eVar, w_eIsX, w_eXf, w_eCallX, w_iRan1, w_iSeq, w_iOwn, w_lComp, w_sFor, w_for0, w_for1, w_gN, w_gSet, w_sTry, w_catch0, w_catch, w_aftX, w_sAsg, w_lCut, w_oNone, w_oSome, w_tYes, dat_cs, dat_non, dat_bl, dat_int, eqv_int, eqv_bool, eqv_cs, eqv_str, eqv_l00, eqv_l10, eqv_t00, eqv_t10, wE_mkFF, r_lstR, r_lstM, r_seqW, r_lstW, r_isL, r_insAt, r_tyW, r_srcW, r_dat, s_im, s_tup, s_lr, s_sc, l_im, l_lr, l_sc, m_im, m_lr, i_im, i_lr, i_sc, c_im, c_tup, c_sc, t_tup, t_im, t_int, t_bl, t_str, t_non, ln_ref, ln_tup, ln_im, ln_lr, ix_ref, ix_tup', ix_im, ix_lr, ix_sc, isN_ref, isN_non, isN_tup, isN_int, isN_bl, isN_str, isN_im, List.map_cons, List.map_nil, List.cons_append, List.nil_append, List.append_nil, List.getElem?_cons_zero, List.getElem?_cons_succ, List.set_cons_zero, List.set_cons_succ, List.replicate_succ, List.replicate_zero, List.length_cons, List.length_nil, List.lookup, il_int, il_bl, il_str, il_non, il_tup, il_im, il_sc, il_ref, il_cl, il_lr, ixN_zero, it_NoneType_bool, it_NoneType_int, it_NoneType_str, it_NoneType_tuple, it_NoneType_list, it_NoneType_dict, it_bool_bool, it_bool_int, it_bool_str, it_bool_tuple, it_bool_list, it_bool_dict, it_int_bool, it_int_int, it_int_str, it_int_tuple, it_int_list, it_int_dict, it_str_bool, it_str_int, it_str_str, it_str_tuple, it_str_list, it_str_dict, it_tuple_bool, it_tuple_int, it_tuple_str, it_tuple_tuple, it_tuple_list, it_tuple_dict, it_list_bool, it_list_int, it_list_str, it_list_tuple, it_list_list, it_list_dict, it_dict_bool, it_dict_int, it_dict_str, it_dict_tuple, it_dict_list, it_dict_dict, eq_self, Bool.not_true, Bool.not_false, decide_true, decide_false, true_and, and_true, Option.some.injEq, exists_eq_left, exists_eq_left', exists_eq_right, W.bl.injEq, W.int.injEq, Bool.false_eq_true, Bool.true_eq_false, reduceCtorEq, false_and, exists_false, and_self, forall_const, false_implies, true_implies, if_true, if_false, Int.reduceLE, Int.reduceLT, Int.reduceNeg, Nat.reduceLeDiff, Nat.reduceAdd, Nat.reduceSub, String.reduceEq, String.reduceBEq, String.reduceBNe, wE_mkFX, List.lookup_cons_self, beq_self_eq_true, Option.map_some, Option.map_none, List.set_set, decide_eq_true_eq, decide_eq_false_iff_not] at p6 ⊢
    refine ⟨fun d => ?_, fun d => ?_⟩
    · refine number_ok p6 (by omega) (by omega) fun r7 l7 p7 => ?_
      try simp (config := { dsimp := false }) only [o_bl, o_slv, o_sll, o_op, o_if, o_d2, f_eq, f_ne, o_tup, o_len, o_bls, o_int, o_at, o_app, o_pop0, o_ins, o_cat, f_cnt, o_ty, o_isX, o_xf, o_cX, o_ran, o_sm, o_catchT, o_catchF, wE_oIf, gDivC, gModC, Option.isNone_none, Option.isNone_some, Option.bind_some, Bool.and_true, Bool.true_and, Bool.and_eq_true, decide_eq_true_eq, decide_eq_false_iff_not, v_catT, ln_sc, wE_ok, wE_exc, wE_bad, wE_bind, wS_nx, wS_rt, wS_bk, wS_ct, wS_exc, wS_bad, wS_bSeq, w_bNil, w_sBrk, w_sCnt, w_sIf, w_sRet, w_sRetN, w_sSet, w_sSetL, w_sExp, w_eBin, w_lBin, w_eUn, w_lUn, w_tOf, w_tAnd2, w_tOr2, w_tNot1, w_eAnd, w_eOr, w_eNot, w_eIf, w_eC, w_eTup, w_lLst, w_aNil, w_aCons, w_eIm, w_eAl, w_eCall, w_eFld, w_eM1, w_eM0, w_eM2, w_eMeth, w_ePrp, w_eNew, w_sFldW, w_sDel, w_sRaise1, v_add, v_addS, v_sub, v_mul, v_div, v_mod, v_lt, v_le, v_gt, v_ge, v_isN, v_notN, v_neg, v_int, v_intB, v_abs, v_max2, v_min2, v_eq, v_ne, v_tup, v_seqL, v_bls, v_ints, v_app, v_popAt, v_pop, v_ins, v_cat, v_cnt, w_eIsT, w_eVar, w_eIsX, w_eXf, w_eCallX, w_iRan1, w_iSeq, w_iOwn, w_lComp, w_sFor, w_for0, w_for1, w_gN, w_gSet, w_sTry, w_catch0, w_catch, w_aftX, w_sAsg, w_lCut, w_oNone, w_oSome, w_tYes, dat_cs, dat_non, dat_bl, dat_int, eqv_int, eqv_bool, eqv_cs, eqv_str, eqv_l00, eqv_l10, eqv_t00, eqv_t10, wE_mkFF, r_lstR, r_lstM, r_seqW, r_lstW, r_isL, r_insAt, r_tyW, r_srcW, r_dat, s_im, s_tup, s_lr, s_sc, l_im, l_lr, l_sc, m_im, m_lr, i_im, i_lr, i_sc, c_im, c_tup, c_sc, t_tup, t_im, t_int, t_bl, t_str, t_non, ln_ref, ln_tup, ln_im, ln_lr, ix_ref, ix_tup', ix_im, ix_lr, ix_sc, isN_ref, isN_non, isN_tup, isN_int, isN_bl, isN_str, isN_im, List.map_cons, List.map_nil, List.cons_append, List.nil_append, List.append_nil, List.getElem?_cons_zero, List.getElem?_cons_succ, List.set_cons_zero, List.set_cons_succ, List.replicate_succ, List.replicate_zero, List.length_cons, List.length_nil, List.lookup, il_int, il_bl, il_str, il_non, il_tup, il_im, il_sc, il_ref, il_cl, il_lr, ixN_zero, it_NoneType_bool, it_NoneType_int, it_NoneType_str, it_NoneType_tuple, it_NoneType_list, it_NoneType_dict, it_bool_bool, it_bool_int, it_bool_str, it_bool_tuple, it_bool_list, it_bool_dict, it_int_bool, it_int_int, it_int_str, it_int_tuple, it_int_list, it_int_dict, it_str_bool, it_str_int, it_str_str, it_str_tuple, it_str_list, it_str_dict, it_tuple_bool, it_tuple_int, it_tuple_str, it_tuple_tuple, it_tuple_list, it_tuple_dict, it_list_bool, it_list_int, it_list_str, it_list_tuple, it_list_list, it_list_dict, it_dict_bool, it_dict_int, it_dict_str, it_dict_tuple, it_dict_list, it_dict_dict, eq_self, Bool.not_true, Bool.not_false, decide_true, decide_false, true_and, and_true, Option.some.injEq, exists_eq_left, exists_eq_left', exists_eq_right, W.bl.injEq, W.int.injEq, Bool.false_eq_true, Bool.true_eq_false, reduceCtorEq, false_and, exists_false, and_self, forall_const, false_implies, true_implies, if_true, if_false, Int.reduceLE, Int.reduceLT, Int.reduceNeg, Nat.reduceLeDiff, Nat.reduceAdd, Nat.reduceSub, String.reduceEq, String.reduceBEq, String.reduceBNe, wE_mkFX, List.lookup_cons_self, beq_self_eq_true, Option.map_some, Option.map_none, List.set_set] at p7 ⊢
      refine number_ok p7 (by omega) (by omega) fun r8 l8 p8 => ?_
      try simp (config := { dsimp := false }) only [o_bl, o_slv, o_sll, o_op, o_if, o_d2, f_eq, f_ne, o_tup, o_len, o_bls, o_int, o_at, o_app, o_pop0, o_ins, o_cat, f_cnt, o_ty, o_isX, o_xf, o_cX, o_ran, o_sm, o_catchT, o_catchF, wE_oIf, gDivC, gModC, Option.isNone_none, Option.isNone_some, Option.bind_some, Bool.and_true, Bool.true_and, Bool.and_eq_true, decide_eq_true_eq, decide_eq_false_iff_not, v_catT, ln_sc, wE_ok, wE_exc, wE_bad, wE_bind, wS_nx, wS_rt, wS_bk, wS_ct, wS_exc, wS_bad, wS_bSeq, w_bNil, w_sBrk, w_sCnt, w_sIf, w_sRet, w_sRetN, w_sSet, w_sSetL, w_sExp, w_eBin, w_lBin, w_eUn, w_lUn, w_tOf, w_tAnd2, w_tOr2, w_tNot1, w_eAnd, w_eOr, w_eNot, w_eIf, w_eC, w_eTup, w_lLst, w_aNil, w_aCons, w_eIm, w_eAl, w_eCall, w_eFld, w_eM1, w_eM0, w_eM2, w_eMeth, w_ePrp, w_eNew, w_sFldW, w_sDel, w_sRaise1, v_add, v_addS, v_sub, v_mul, v_div, v_mod, v_lt, v_le, v_gt, v_ge, v_isN, v_notN, v_neg, v_int, v_intB, v_abs, v_max2, v_min2, v_eq, v_ne, v_tup, v_seqL, v_bls, v_ints, v_app, v_popAt, v_pop, v_ins, v_cat, v_cnt, w_eIsT, w_eVar, w_eIsX, w_eXf, w_eCallX, w_iRan1, w_iSeq, w_iOwn, w_lComp, w_sFor, w_for0, w_for1, w_gN, w_gSet, w_sTry, w_catch0, w_catch, w_aftX, w_sAsg, w_lCut, w_oNone, w_oSome, w_tYes, dat_cs, dat_non, dat_bl, dat_int, eqv_int, eqv_bool, eqv_cs, eqv_str, eqv_l00, eqv_l10, eqv_t00, eqv_t10, wE_mkFF, r_lstR, r_lstM, r_seqW, r_lstW, r_isL, r_insAt, r_tyW, r_srcW, r_dat, s_im, s_tup, s_lr, s_sc, l_im, l_lr, l_sc, m_im, m_lr, i_im, i_lr, i_sc, c_im, c_tup, c_sc, t_tup, t_im, t_int, t_bl, t_str, t_non, ln_ref, ln_tup, ln_im, ln_lr, ix_ref, ix_tup', ix_im, ix_lr, ix_sc, isN_ref, isN_non, isN_tup, isN_int, isN_bl, isN_str, isN_im, List.map_cons, List.map_nil, List.cons_append, List.nil_append, List.append_nil, List.getElem?_cons_zero, List.getElem?_cons_succ, List.set_cons_zero, List.set_cons_succ, List.replicate_succ, List.replicate_zero, List.length_cons, List.length_nil, List.lookup, il_int, il_bl, il_str, il_non, il_tup, il_im, il_sc, il_ref, il_cl, il_lr, ixN_zero, it_NoneType_bool, it_NoneType_int, it_NoneType_str, it_NoneType_tuple, it_NoneType_list, it_NoneType_dict, it_bool_bool, it_bool_int, it_bool_str, it_bool_tuple, it_bool_list, it_bool_dict, it_int_bool, it_int_int, it_int_str, it_int_tuple, it_int_list, it_int_dict, it_str_bool, it_str_int, it_str_str, it_str_tuple, it_str_list, it_str_dict, it_tuple_bool, it_tuple_int, it_tuple_str, it_tuple_tuple, it_tuple_list, it_tuple_dict, it_list_bool, it_list_int, it_list_str, it_list_tuple, it_list_list, it_list_dict, it_dict_bool, it_dict_int, it_dict_str, it_dict_tuple, it_dict_list, it_dict_dict, eq_self, Bool.not_true, Bool.not_false, decide_true, decide_false, true_and, and_true, Option.some.injEq, exists_eq_left, exists_eq_left', exists_eq_right, W.bl.injEq, W.int.injEq, Bool.false_eq_true, Bool.true_eq_false, reduceCtorEq, false_and, exists_false, and_self, forall_const, false_implies, true_implies, if_true, if_false, Int.reduceLE, Int.reduceLT, Int.reduceNeg, Nat.reduceLeDiff, Nat.reduceAdd, Nat.reduceSub, String.reduceEq, String.reduceBEq, String.reduceBNe, wE_mkFX, List.lookup_cons_self, beq_self_eq_true, Option.map_some, Option.map_none, List.set_set] at p8 ⊢
      exact hq _ _ ⟨"told", [r1, r3, r2, r8, r4, r7], .inr rfl, rfl, by simp, by simp⟩ p8
    · refine number_ok p6 (by omega) (by omega) fun r8 l8 p8 => ?_
      try simp (config := { dsimp := false }) only [o_bl, o_slv, o_sll, o_op, o_if, o_d2, f_eq, f_ne, o_tup, o_len, o_bls, o_int, o_at, o_app, o_pop0, o_ins, o_cat, f_cnt, o_ty, o_isX, o_xf, o_cX, o_ran, o_sm, o_catchT, o_catchF, wE_oIf, gDivC, gModC, Option.isNone_none, Option.isNone_some, Option.bind_some, Bool.and_true, Bool.true_and, Bool.and_eq_true, decide_eq_true_eq, decide_eq_false_iff_not, v_catT, ln_sc, wE_ok, wE_exc, wE_bad, wE_bind, wS_nx, wS_rt, wS_bk, wS_ct, wS_exc, wS_bad, wS_bSeq, w_bNil, w_sBrk, w_sCnt, w_sIf, w_sRet, w_sRetN, w_sSet, w_sSetL, w_sExp, w_eBin, w_lBin, w_eUn, w_lUn, w_tOf, w_tAnd2, w_tOr2, w_tNot1, w_eAnd, w_eOr, w_eNot, w_eIf, w_eC, w_eTup, w_lLst, w_aNil, w_aCons, w_eIm, w_eAl, w_eCall, w_eFld, w_eM1, w_eM0, w_eM2, w_eMeth, w_ePrp, w_eNew, w_sFldW, w_sDel, w_sRaise1, v_add, v_addS, v_sub, v_mul, v_div, v_mod, v_lt, v_le, v_gt, v_ge, v_isN, v_notN, v_neg, v_int, v_intB, v_abs, v_max2, v_min2, v_eq, v_ne, v_tup, v_seqL, v_bls, v_ints, v_app, v_popAt, v_pop, v_ins, v_cat, v_cnt, w_eIsT, w_eVar, w_eIsX, w_eXf, w_eCallX, w_iRan1, w_iSeq, w_iOwn, w_lComp, w_sFor, w_for0, w_for1, w_gN, w_gSet, w_sTry, w_catch0, w_catch, w_aftX, w_sAsg, w_lCut, w_oNone, w_oSome, w_tYes, dat_cs, dat_non, dat_bl, dat_int, eqv_int, eqv_bool, eqv_cs, eqv_str, eqv_l00, eqv_l10, eqv_t00, eqv_t10, wE_mkFF, r_lstR, r_lstM, r_seqW, r_lstW, r_isL, r_insAt, r_tyW, r_srcW, r_dat, s_im, s_tup, s_lr, s_sc, l_im, l_lr, l_sc, m_im, m_lr, i_im, i_lr, i_sc, c_im, c_tup, c_sc, t_tup, t_im, t_int, t_bl, t_str, t_non, ln_ref, ln_tup, ln_im, ln_lr, ix_ref, ix_tup', ix_im, ix_lr, ix_sc, isN_ref, isN_non, isN_tup, isN_int, isN_bl, isN_str, isN_im, List.map_cons, List.map_nil, List.cons_append, List.nil_append, List.append_nil, List.getElem?_cons_zero, List.getElem?_cons_succ, List.set_cons_zero, List.set_cons_succ, List.replicate_succ, List.replicate_zero, List.length_cons, List.length_nil, List.lookup, il_int, il_bl, il_str, il_non, il_tup, il_im, il_sc, il_ref, il_cl, il_lr, ixN_zero, it_NoneType_bool, it_NoneType_int, it_NoneType_str, it_NoneType_tuple, it_NoneType_list, it_NoneType_dict, it_bool_bool, it_bool_int, it_bool_str, it_bool_tuple, it_bool_list, it_bool_dict, it_int_bool, it_int_int, it_int_str, it_int_tuple, it_int_list, it_int_dict, it_str_bool, it_str_int, it_str_str, it_str_tuple, it_str_list, it_str_dict, it_tuple_bool, it_tuple_int, it_tuple_str, it_tuple_tuple, it_tuple_list, it_tuple_dict, it_list_bool, it_list_int, it_list_str, it_list_tuple, it_list_list, it_list_dict, it_dict_bool, it_dict_int, it_dict_str, it_dict_tuple, it_dict_list, it_dict_dict, eq_self, Bool.not_true, Bool.not_false, decide_true, decide_false, true_and, and_true, Option.some.injEq, exists_eq_left, exists_eq_left', exists_eq_right, W.bl.injEq, W.int.injEq, Bool.false_eq_true, Bool.true_eq_false, reduceCtorEq, false_and, exists_false, and_self, forall_const, false_implies, true_implies, if_true, if_false, Int.reduceLE, Int.reduceLT, Int.reduceNeg, Nat.reduceLeDiff, Nat.reduceAdd, Nat.reduceSub, String.reduceEq, String.reduceBEq, String.reduceBNe, wE_mkFX, List.lookup_cons_self, beq_self_eq_true, Option.map_some, Option.map_none, List.set_set] at p8 ⊢
      exact hq _ _ ⟨"told", [r1, r3, r2, r8, r4, -1], .inr rfl, rfl, by simp, by simp⟩ p8
/-! ### law_same -/
def FlW : Nat → W → Prop
  | _, .non => True
  | _, .bl _ => True
  | _, .int _ => True
  | _, .str l => okS l = true
  | n + 1, .tup ws => ws.length ≤ 1000 ∧ ∀ w ∈ ws, FlW n w
  | _, _ => False
theorem isLr_fl : ∀ {n : Nat} {w : W}, FlW n w → isLr w = false := by
  intro n w h
  cases w <;> first | rfl | (cases n <;> exact h.elim)
theorem same_ok {st : Store} : ∀ (n : Nat) {w : W} {Q : W → Store → Prop} {E : EX}, FlW n w → Q (.bl true) st → wE (f__law_same (n + 1) [w, w] st) Q E := by
  intro n
  induction n with
  | zero =>
    intro w Q E h q
    unfold f__law_same
    cases w <;> simp only [FlW] at h
    · try simp (config := { dsimp := false }) only [o_bl, o_slv, o_sll, o_op, o_if, o_d2, f_eq, f_ne, o_tup, o_len, o_bls, o_int, o_at, o_app, o_pop0, o_ins, o_cat, f_cnt, o_ty, o_isX, o_xf, o_cX, o_ran, o_sm, o_catchT, o_catchF, wE_oIf, gDivC, gModC, Option.isNone_none, Option.isNone_some, Option.bind_some, Bool.and_true, Bool.true_and, Bool.and_eq_true, decide_eq_true_eq, decide_eq_false_iff_not, v_catT, ln_sc, wE_ok, wE_exc, wE_bad, wE_bind, wS_nx, wS_rt, wS_bk, wS_ct, wS_exc, wS_bad, wS_bSeq, w_bNil, w_sBrk, w_sCnt, w_sIf, w_sRet, w_sRetN, w_sSet, w_sSetL, w_sExp, w_eBin, w_lBin, w_eUn, w_lUn, w_tOf, w_tAnd2, w_tOr2, w_tNot1, w_eAnd, w_eOr, w_eNot, w_eIf, w_eC, w_eTup, w_lLst, w_aNil, w_aCons, w_eIm, w_eAl, w_eCall, w_eFld, w_eM1, w_eM0, w_eM2, w_eMeth, w_ePrp, w_eNew, w_sFldW, w_sDel, w_sRaise1, v_add, v_addS, v_sub, v_mul, v_div, v_mod, v_lt, v_le, v_gt, v_ge, v_isN, v_notN, v_neg, v_int, v_intB, v_abs, v_max2, v_min2, v_eq, v_ne, v_tup, v_seqL, v_bls, v_ints, v_app, v_popAt, v_pop, v_ins, v_cat, v_cnt, w_eIsT, w_eVar, w_eIsX, w_eXf, w_eCallX, w_iRan1, w_iSeq, w_iOwn, w_lComp, w_sFor, w_for0, w_for1, w_gN, w_gSet, w_sTry, w_catch0, w_catch, w_aftX, w_sAsg, w_lCut, w_oNone, w_oSome, w_tYes, dat_cs, dat_non, dat_bl, dat_int, eqv_int, eqv_bool, eqv_cs, eqv_str, eqv_l00, eqv_l10, eqv_t00, eqv_t10, wE_mkFF, r_lstR, r_lstM, r_seqW, r_lstW, r_isL, r_insAt, r_tyW, r_srcW, r_dat, s_im, s_tup, s_lr, s_sc, l_im, l_lr, l_sc, m_im, m_lr, i_im, i_lr, i_sc, c_im, c_tup, c_sc, t_tup, t_im, t_int, t_bl, t_str, t_non, ln_ref, ln_tup, ln_im, ln_lr, ix_ref, ix_tup', ix_im, ix_lr, ix_sc, isN_ref, isN_non, isN_tup, isN_int, isN_bl, isN_str, isN_im, List.map_cons, List.map_nil, List.cons_append, List.nil_append, List.append_nil, List.getElem?_cons_zero, List.getElem?_cons_succ, List.set_cons_zero, List.set_cons_succ, List.replicate_succ, List.replicate_zero, List.length_cons, List.length_nil, List.lookup, il_int, il_bl, il_str, il_non, il_tup, il_im, il_sc, il_ref, il_cl, il_lr, ixN_zero, it_NoneType_bool, it_NoneType_int, it_NoneType_str, it_NoneType_tuple, it_NoneType_list, it_NoneType_dict, it_bool_bool, it_bool_int, it_bool_str, it_bool_tuple, it_bool_list, it_bool_dict, it_int_bool, it_int_int, it_int_str, it_int_tuple, it_int_list, it_int_dict, it_str_bool, it_str_int, it_str_str, it_str_tuple, it_str_list, it_str_dict, it_tuple_bool, it_tuple_int, it_tuple_str, it_tuple_tuple, it_tuple_list, it_tuple_dict, it_list_bool, it_list_int, it_list_str, it_list_tuple, it_list_list, it_list_dict, it_dict_bool, it_dict_int, it_dict_str, it_dict_tuple, it_dict_list, it_dict_dict, eq_self, Bool.not_true, Bool.not_false, decide_true, decide_false, true_and, and_true, Option.some.injEq, exists_eq_left, exists_eq_left', exists_eq_right, W.bl.injEq, W.int.injEq, Bool.false_eq_true, Bool.true_eq_false, reduceCtorEq, false_and, exists_false, and_self, forall_const, false_implies, true_implies, if_true, if_false, Int.reduceLE, Int.reduceLT, Int.reduceNeg, Nat.reduceLeDiff, Nat.reduceAdd, Nat.reduceSub, String.reduceEq, String.reduceBEq, String.reduceBNe, wE_mkFX, List.lookup_cons_self, beq_self_eq_true, Option.map_some, Option.map_none]; exact q
    · try simp (config := { dsimp := false }) only [o_bl, o_slv, o_sll, o_op, o_if, o_d2, f_eq, f_ne, o_tup, o_len, o_bls, o_int, o_at, o_app, o_pop0, o_ins, o_cat, f_cnt, o_ty, o_isX, o_xf, o_cX, o_ran, o_sm, o_catchT, o_catchF, wE_oIf, gDivC, gModC, Option.isNone_none, Option.isNone_some, Option.bind_some, Bool.and_true, Bool.true_and, Bool.and_eq_true, decide_eq_true_eq, decide_eq_false_iff_not, v_catT, ln_sc, wE_ok, wE_exc, wE_bad, wE_bind, wS_nx, wS_rt, wS_bk, wS_ct, wS_exc, wS_bad, wS_bSeq, w_bNil, w_sBrk, w_sCnt, w_sIf, w_sRet, w_sRetN, w_sSet, w_sSetL, w_sExp, w_eBin, w_lBin, w_eUn, w_lUn, w_tOf, w_tAnd2, w_tOr2, w_tNot1, w_eAnd, w_eOr, w_eNot, w_eIf, w_eC, w_eTup, w_lLst, w_aNil, w_aCons, w_eIm, w_eAl, w_eCall, w_eFld, w_eM1, w_eM0, w_eM2, w_eMeth, w_ePrp, w_eNew, w_sFldW, w_sDel, w_sRaise1, v_add, v_addS, v_sub, v_mul, v_div, v_mod, v_lt, v_le, v_gt, v_ge, v_isN, v_notN, v_neg, v_int, v_intB, v_abs, v_max2, v_min2, v_eq, v_ne, v_tup, v_seqL, v_bls, v_ints, v_app, v_popAt, v_pop, v_ins, v_cat, v_cnt, w_eIsT, w_eVar, w_eIsX, w_eXf, w_eCallX, w_iRan1, w_iSeq, w_iOwn, w_lComp, w_sFor, w_for0, w_for1, w_gN, w_gSet, w_sTry, w_catch0, w_catch, w_aftX, w_sAsg, w_lCut, w_oNone, w_oSome, w_tYes, dat_cs, dat_non, dat_bl, dat_int, eqv_int, eqv_bool, eqv_cs, eqv_str, eqv_l00, eqv_l10, eqv_t00, eqv_t10, wE_mkFF, r_lstR, r_lstM, r_seqW, r_lstW, r_isL, r_insAt, r_tyW, r_srcW, r_dat, s_im, s_tup, s_lr, s_sc, l_im, l_lr, l_sc, m_im, m_lr, i_im, i_lr, i_sc, c_im, c_tup, c_sc, t_tup, t_im, t_int, t_bl, t_str, t_non, ln_ref, ln_tup, ln_im, ln_lr, ix_ref, ix_tup', ix_im, ix_lr, ix_sc, isN_ref, isN_non, isN_tup, isN_int, isN_bl, isN_str, isN_im, List.map_cons, List.map_nil, List.cons_append, List.nil_append, List.append_nil, List.getElem?_cons_zero, List.getElem?_cons_succ, List.set_cons_zero, List.set_cons_succ, List.replicate_succ, List.replicate_zero, List.length_cons, List.length_nil, List.lookup, il_int, il_bl, il_str, il_non, il_tup, il_im, il_sc, il_ref, il_cl, il_lr, ixN_zero, it_NoneType_bool, it_NoneType_int, it_NoneType_str, it_NoneType_tuple, it_NoneType_list, it_NoneType_dict, it_bool_bool, it_bool_int, it_bool_str, it_bool_tuple, it_bool_list, it_bool_dict, it_int_bool, it_int_int, it_int_str, it_int_tuple, it_int_list, it_int_dict, it_str_bool, it_str_int, it_str_str, it_str_tuple, it_str_list, it_str_dict, it_tuple_bool, it_tuple_int, it_tuple_str, it_tuple_tuple, it_tuple_list, it_tuple_dict, it_list_bool, it_list_int, it_list_str, it_list_tuple, it_list_list, it_list_dict, it_dict_bool, it_dict_int, it_dict_str, it_dict_tuple, it_dict_list, it_dict_dict, eq_self, Bool.not_true, Bool.not_false, decide_true, decide_false, true_and, and_true, Option.some.injEq, exists_eq_left, exists_eq_left', exists_eq_right, W.bl.injEq, W.int.injEq, Bool.false_eq_true, Bool.true_eq_false, reduceCtorEq, false_and, exists_false, and_self, forall_const, false_implies, true_implies, if_true, if_false, Int.reduceLE, Int.reduceLT, Int.reduceNeg, Nat.reduceLeDiff, Nat.reduceAdd, Nat.reduceSub, String.reduceEq, String.reduceBEq, String.reduceBNe, wE_mkFX, List.lookup_cons_self, beq_self_eq_true, Option.map_some, Option.map_none]; exact q
    · try simp (config := { dsimp := false }) only [o_bl, o_slv, o_sll, o_op, o_if, o_d2, f_eq, f_ne, o_tup, o_len, o_bls, o_int, o_at, o_app, o_pop0, o_ins, o_cat, f_cnt, o_ty, o_isX, o_xf, o_cX, o_ran, o_sm, o_catchT, o_catchF, wE_oIf, gDivC, gModC, Option.isNone_none, Option.isNone_some, Option.bind_some, Bool.and_true, Bool.true_and, Bool.and_eq_true, decide_eq_true_eq, decide_eq_false_iff_not, v_catT, ln_sc, wE_ok, wE_exc, wE_bad, wE_bind, wS_nx, wS_rt, wS_bk, wS_ct, wS_exc, wS_bad, wS_bSeq, w_bNil, w_sBrk, w_sCnt, w_sIf, w_sRet, w_sRetN, w_sSet, w_sSetL, w_sExp, w_eBin, w_lBin, w_eUn, w_lUn, w_tOf, w_tAnd2, w_tOr2, w_tNot1, w_eAnd, w_eOr, w_eNot, w_eIf, w_eC, w_eTup, w_lLst, w_aNil, w_aCons, w_eIm, w_eAl, w_eCall, w_eFld, w_eM1, w_eM0, w_eM2, w_eMeth, w_ePrp, w_eNew, w_sFldW, w_sDel, w_sRaise1, v_add, v_addS, v_sub, v_mul, v_div, v_mod, v_lt, v_le, v_gt, v_ge, v_isN, v_notN, v_neg, v_int, v_intB, v_abs, v_max2, v_min2, v_eq, v_ne, v_tup, v_seqL, v_bls, v_ints, v_app, v_popAt, v_pop, v_ins, v_cat, v_cnt, w_eIsT, w_eVar, w_eIsX, w_eXf, w_eCallX, w_iRan1, w_iSeq, w_iOwn, w_lComp, w_sFor, w_for0, w_for1, w_gN, w_gSet, w_sTry, w_catch0, w_catch, w_aftX, w_sAsg, w_lCut, w_oNone, w_oSome, w_tYes, dat_cs, dat_non, dat_bl, dat_int, eqv_int, eqv_bool, eqv_cs, eqv_str, eqv_l00, eqv_l10, eqv_t00, eqv_t10, wE_mkFF, r_lstR, r_lstM, r_seqW, r_lstW, r_isL, r_insAt, r_tyW, r_srcW, r_dat, s_im, s_tup, s_lr, s_sc, l_im, l_lr, l_sc, m_im, m_lr, i_im, i_lr, i_sc, c_im, c_tup, c_sc, t_tup, t_im, t_int, t_bl, t_str, t_non, ln_ref, ln_tup, ln_im, ln_lr, ix_ref, ix_tup', ix_im, ix_lr, ix_sc, isN_ref, isN_non, isN_tup, isN_int, isN_bl, isN_str, isN_im, List.map_cons, List.map_nil, List.cons_append, List.nil_append, List.append_nil, List.getElem?_cons_zero, List.getElem?_cons_succ, List.set_cons_zero, List.set_cons_succ, List.replicate_succ, List.replicate_zero, List.length_cons, List.length_nil, List.lookup, il_int, il_bl, il_str, il_non, il_tup, il_im, il_sc, il_ref, il_cl, il_lr, ixN_zero, it_NoneType_bool, it_NoneType_int, it_NoneType_str, it_NoneType_tuple, it_NoneType_list, it_NoneType_dict, it_bool_bool, it_bool_int, it_bool_str, it_bool_tuple, it_bool_list, it_bool_dict, it_int_bool, it_int_int, it_int_str, it_int_tuple, it_int_list, it_int_dict, it_str_bool, it_str_int, it_str_str, it_str_tuple, it_str_list, it_str_dict, it_tuple_bool, it_tuple_int, it_tuple_str, it_tuple_tuple, it_tuple_list, it_tuple_dict, it_list_bool, it_list_int, it_list_str, it_list_tuple, it_list_list, it_list_dict, it_dict_bool, it_dict_int, it_dict_str, it_dict_tuple, it_dict_list, it_dict_dict, eq_self, Bool.not_true, Bool.not_false, decide_true, decide_false, true_and, and_true, Option.some.injEq, exists_eq_left, exists_eq_left', exists_eq_right, W.bl.injEq, W.int.injEq, Bool.false_eq_true, Bool.true_eq_false, reduceCtorEq, false_and, exists_false, and_self, forall_const, false_implies, true_implies, if_true, if_false, Int.reduceLE, Int.reduceLT, Int.reduceNeg, Nat.reduceLeDiff, Nat.reduceAdd, Nat.reduceSub, String.reduceEq, String.reduceBEq, String.reduceBNe, wE_mkFX, List.lookup_cons_self, beq_self_eq_true, Option.map_some, Option.map_none]; exact q
    · try simp (config := { dsimp := false }) only [o_bl, o_slv, o_sll, o_op, o_if, o_d2, f_eq, f_ne, o_tup, o_len, o_bls, o_int, o_at, o_app, o_pop0, o_ins, o_cat, f_cnt, o_ty, o_isX, o_xf, o_cX, o_ran, o_sm, o_catchT, o_catchF, wE_oIf, gDivC, gModC, Option.isNone_none, Option.isNone_some, Option.bind_some, Bool.and_true, Bool.true_and, Bool.and_eq_true, decide_eq_true_eq, decide_eq_false_iff_not, v_catT, ln_sc, wE_ok, wE_exc, wE_bad, wE_bind, wS_nx, wS_rt, wS_bk, wS_ct, wS_exc, wS_bad, wS_bSeq, w_bNil, w_sBrk, w_sCnt, w_sIf, w_sRet, w_sRetN, w_sSet, w_sSetL, w_sExp, w_eBin, w_lBin, w_eUn, w_lUn, w_tOf, w_tAnd2, w_tOr2, w_tNot1, w_eAnd, w_eOr, w_eNot, w_eIf, w_eC, w_eTup, w_lLst, w_aNil, w_aCons, w_eIm, w_eAl, w_eCall, w_eFld, w_eM1, w_eM0, w_eM2, w_eMeth, w_ePrp, w_eNew, w_sFldW, w_sDel, w_sRaise1, v_add, v_addS, v_sub, v_mul, v_div, v_mod, v_lt, v_le, v_gt, v_ge, v_isN, v_notN, v_neg, v_int, v_intB, v_abs, v_max2, v_min2, v_eq, v_ne, v_tup, v_seqL, v_bls, v_ints, v_app, v_popAt, v_pop, v_ins, v_cat, v_cnt, w_eIsT, w_eVar, w_eIsX, w_eXf, w_eCallX, w_iRan1, w_iSeq, w_iOwn, w_lComp, w_sFor, w_for0, w_for1, w_gN, w_gSet, w_sTry, w_catch0, w_catch, w_aftX, w_sAsg, w_lCut, w_oNone, w_oSome, w_tYes, dat_cs, dat_non, dat_bl, dat_int, eqv_int, eqv_bool, eqv_cs, eqv_str, eqv_l00, eqv_l10, eqv_t00, eqv_t10, wE_mkFF, r_lstR, r_lstM, r_seqW, r_lstW, r_isL, r_insAt, r_tyW, r_srcW, r_dat, s_im, s_tup, s_lr, s_sc, l_im, l_lr, l_sc, m_im, m_lr, i_im, i_lr, i_sc, c_im, c_tup, c_sc, t_tup, t_im, t_int, t_bl, t_str, t_non, ln_ref, ln_tup, ln_im, ln_lr, ix_ref, ix_tup', ix_im, ix_lr, ix_sc, isN_ref, isN_non, isN_tup, isN_int, isN_bl, isN_str, isN_im, List.map_cons, List.map_nil, List.cons_append, List.nil_append, List.append_nil, List.getElem?_cons_zero, List.getElem?_cons_succ, List.set_cons_zero, List.set_cons_succ, List.replicate_succ, List.replicate_zero, List.length_cons, List.length_nil, List.lookup, il_int, il_bl, il_str, il_non, il_tup, il_im, il_sc, il_ref, il_cl, il_lr, ixN_zero, it_NoneType_bool, it_NoneType_int, it_NoneType_str, it_NoneType_tuple, it_NoneType_list, it_NoneType_dict, it_bool_bool, it_bool_int, it_bool_str, it_bool_tuple, it_bool_list, it_bool_dict, it_int_bool, it_int_int, it_int_str, it_int_tuple, it_int_list, it_int_dict, it_str_bool, it_str_int, it_str_str, it_str_tuple, it_str_list, it_str_dict, it_tuple_bool, it_tuple_int, it_tuple_str, it_tuple_tuple, it_tuple_list, it_tuple_dict, it_list_bool, it_list_int, it_list_str, it_list_tuple, it_list_list, it_list_dict, it_dict_bool, it_dict_int, it_dict_str, it_dict_tuple, it_dict_list, it_dict_dict, eq_self, Bool.not_true, Bool.not_false, decide_true, decide_false, true_and, and_true, Option.some.injEq, exists_eq_left, exists_eq_left', exists_eq_right, W.bl.injEq, W.int.injEq, Bool.false_eq_true, Bool.true_eq_false, reduceCtorEq, false_and, exists_false, and_self, forall_const, false_implies, true_implies, if_true, if_false, Int.reduceLE, Int.reduceLT, Int.reduceNeg, Nat.reduceLeDiff, Nat.reduceAdd, Nat.reduceSub, String.reduceEq, String.reduceBEq, String.reduceBNe, wE_mkFX, List.lookup_cons_self, beq_self_eq_true, Option.map_some, Option.map_none, dat_str h]; exact q
  | succ n ih =>
    intro w Q E h q
    unfold f__law_same
    cases w <;> simp only [FlW] at h
    · try simp (config := { dsimp := false }) only [o_bl, o_slv, o_sll, o_op, o_if, o_d2, f_eq, f_ne, o_tup, o_len, o_bls, o_int, o_at, o_app, o_pop0, o_ins, o_cat, f_cnt, o_ty, o_isX, o_xf, o_cX, o_ran, o_sm, o_catchT, o_catchF, wE_oIf, gDivC, gModC, Option.isNone_none, Option.isNone_some, Option.bind_some, Bool.and_true, Bool.true_and, Bool.and_eq_true, decide_eq_true_eq, decide_eq_false_iff_not, v_catT, ln_sc, wE_ok, wE_exc, wE_bad, wE_bind, wS_nx, wS_rt, wS_bk, wS_ct, wS_exc, wS_bad, wS_bSeq, w_bNil, w_sBrk, w_sCnt, w_sIf, w_sRet, w_sRetN, w_sSet, w_sSetL, w_sExp, w_eBin, w_lBin, w_eUn, w_lUn, w_tOf, w_tAnd2, w_tOr2, w_tNot1, w_eAnd, w_eOr, w_eNot, w_eIf, w_eC, w_eTup, w_lLst, w_aNil, w_aCons, w_eIm, w_eAl, w_eCall, w_eFld, w_eM1, w_eM0, w_eM2, w_eMeth, w_ePrp, w_eNew, w_sFldW, w_sDel, w_sRaise1, v_add, v_addS, v_sub, v_mul, v_div, v_mod, v_lt, v_le, v_gt, v_ge, v_isN, v_notN, v_neg, v_int, v_intB, v_abs, v_max2, v_min2, v_eq, v_ne, v_tup, v_seqL, v_bls, v_ints, v_app, v_popAt, v_pop, v_ins, v_cat, v_cnt, w_eIsT, w_eVar, w_eIsX, w_eXf, w_eCallX, w_iRan1, w_iSeq, w_iOwn, w_lComp, w_sFor, w_for0, w_for1, w_gN, w_gSet, w_sTry, w_catch0, w_catch, w_aftX, w_sAsg, w_lCut, w_oNone, w_oSome, w_tYes, dat_cs, dat_non, dat_bl, dat_int, eqv_int, eqv_bool, eqv_cs, eqv_str, eqv_l00, eqv_l10, eqv_t00, eqv_t10, wE_mkFF, r_lstR, r_lstM, r_seqW, r_lstW, r_isL, r_insAt, r_tyW, r_srcW, r_dat, s_im, s_tup, s_lr, s_sc, l_im, l_lr, l_sc, m_im, m_lr, i_im, i_lr, i_sc, c_im, c_tup, c_sc, t_tup, t_im, t_int, t_bl, t_str, t_non, ln_ref, ln_tup, ln_im, ln_lr, ix_ref, ix_tup', ix_im, ix_lr, ix_sc, isN_ref, isN_non, isN_tup, isN_int, isN_bl, isN_str, isN_im, List.map_cons, List.map_nil, List.cons_append, List.nil_append, List.append_nil, List.getElem?_cons_zero, List.getElem?_cons_succ, List.set_cons_zero, List.set_cons_succ, List.replicate_succ, List.replicate_zero, List.length_cons, List.length_nil, List.lookup, il_int, il_bl, il_str, il_non, il_tup, il_im, il_sc, il_ref, il_cl, il_lr, ixN_zero, it_NoneType_bool, it_NoneType_int, it_NoneType_str, it_NoneType_tuple, it_NoneType_list, it_NoneType_dict, it_bool_bool, it_bool_int, it_bool_str, it_bool_tuple, it_bool_list, it_bool_dict, it_int_bool, it_int_int, it_int_str, it_int_tuple, it_int_list, it_int_dict, it_str_bool, it_str_int, it_str_str, it_str_tuple, it_str_list, it_str_dict, it_tuple_bool, it_tuple_int, it_tuple_str, it_tuple_tuple, it_tuple_list, it_tuple_dict, it_list_bool, it_list_int, it_list_str, it_list_tuple, it_list_list, it_list_dict, it_dict_bool, it_dict_int, it_dict_str, it_dict_tuple, it_dict_list, it_dict_dict, eq_self, Bool.not_true, Bool.not_false, decide_true, decide_false, true_and, and_true, Option.some.injEq, exists_eq_left, exists_eq_left', exists_eq_right, W.bl.injEq, W.int.injEq, Bool.false_eq_true, Bool.true_eq_false, reduceCtorEq, false_and, exists_false, and_self, forall_const, false_implies, true_implies, if_true, if_false, Int.reduceLE, Int.reduceLT, Int.reduceNeg, Nat.reduceLeDiff, Nat.reduceAdd, Nat.reduceSub, String.reduceEq, String.reduceBEq, String.reduceBNe, wE_mkFX, List.lookup_cons_self, beq_self_eq_true, Option.map_some, Option.map_none]; exact q
    · try simp (config := { dsimp := false }) only [o_bl, o_slv, o_sll, o_op, o_if, o_d2, f_eq, f_ne, o_tup, o_len, o_bls, o_int, o_at, o_app, o_pop0, o_ins, o_cat, f_cnt, o_ty, o_isX, o_xf, o_cX, o_ran, o_sm, o_catchT, o_catchF, wE_oIf, gDivC, gModC, Option.isNone_none, Option.isNone_some, Option.bind_some, Bool.and_true, Bool.true_and, Bool.and_eq_true, decide_eq_true_eq, decide_eq_false_iff_not, v_catT, ln_sc, wE_ok, wE_exc, wE_bad, wE_bind, wS_nx, wS_rt, wS_bk, wS_ct, wS_exc, wS_bad, wS_bSeq, w_bNil, w_sBrk, w_sCnt, w_sIf, w_sRet, w_sRetN, w_sSet, w_sSetL, w_sExp, w_eBin, w_lBin, w_eUn, w_lUn, w_tOf, w_tAnd2, w_tOr2, w_tNot1, w_eAnd, w_eOr, w_eNot, w_eIf, w_eC, w_eTup, w_lLst, w_aNil, w_aCons, w_eIm, w_eAl, w_eCall, w_eFld, w_eM1, w_eM0, w_eM2, w_eMeth, w_ePrp, w_eNew, w_sFldW, w_sDel, w_sRaise1, v_add, v_addS, v_sub, v_mul, v_div, v_mod, v_lt, v_le, v_gt, v_ge, v_isN, v_notN, v_neg, v_int, v_intB, v_abs, v_max2, v_min2, v_eq, v_ne, v_tup, v_seqL, v_bls, v_ints, v_app, v_popAt, v_pop, v_ins, v_cat, v_cnt, w_eIsT, w_eVar, w_eIsX, w_eXf, w_eCallX, w_iRan1, w_iSeq, w_iOwn, w_lComp, w_sFor, w_for0, w_for1, w_gN, w_gSet, w_sTry, w_catch0, w_catch, w_aftX, w_sAsg, w_lCut, w_oNone, w_oSome, w_tYes, dat_cs, dat_non, dat_bl, dat_int, eqv_int, eqv_bool, eqv_cs, eqv_str, eqv_l00, eqv_l10, eqv_t00, eqv_t10, wE_mkFF, r_lstR, r_lstM, r_seqW, r_lstW, r_isL, r_insAt, r_tyW, r_srcW, r_dat, s_im, s_tup, s_lr, s_sc, l_im, l_lr, l_sc, m_im, m_lr, i_im, i_lr, i_sc, c_im, c_tup, c_sc, t_tup, t_im, t_int, t_bl, t_str, t_non, ln_ref, ln_tup, ln_im, ln_lr, ix_ref, ix_tup', ix_im, ix_lr, ix_sc, isN_ref, isN_non, isN_tup, isN_int, isN_bl, isN_str, isN_im, List.map_cons, List.map_nil, List.cons_append, List.nil_append, List.append_nil, List.getElem?_cons_zero, List.getElem?_cons_succ, List.set_cons_zero, List.set_cons_succ, List.replicate_succ, List.replicate_zero, List.length_cons, List.length_nil, List.lookup, il_int, il_bl, il_str, il_non, il_tup, il_im, il_sc, il_ref, il_cl, il_lr, ixN_zero, it_NoneType_bool, it_NoneType_int, it_NoneType_str, it_NoneType_tuple, it_NoneType_list, it_NoneType_dict, it_bool_bool, it_bool_int, it_bool_str, it_bool_tuple, it_bool_list, it_bool_dict, it_int_bool, it_int_int, it_int_str, it_int_tuple, it_int_list, it_int_dict, it_str_bool, it_str_int, it_str_str, it_str_tuple, it_str_list, it_str_dict, it_tuple_bool, it_tuple_int, it_tuple_str, it_tuple_tuple, it_tuple_list, it_tuple_dict, it_list_bool, it_list_int, it_list_str, it_list_tuple, it_list_list, it_list_dict, it_dict_bool, it_dict_int, it_dict_str, it_dict_tuple, it_dict_list, it_dict_dict, eq_self, Bool.not_true, Bool.not_false, decide_true, decide_false, true_and, and_true, Option.some.injEq, exists_eq_left, exists_eq_left', exists_eq_right, W.bl.injEq, W.int.injEq, Bool.false_eq_true, Bool.true_eq_false, reduceCtorEq, false_and, exists_false, and_self, forall_const, false_implies, true_implies, if_true, if_false, Int.reduceLE, Int.reduceLT, Int.reduceNeg, Nat.reduceLeDiff, Nat.reduceAdd, Nat.reduceSub, String.reduceEq, String.reduceBEq, String.reduceBNe, wE_mkFX, List.lookup_cons_self, beq_self_eq_true, Option.map_some, Option.map_none]; exact q
    · try simp (config := { dsimp := false }) only [o_bl, o_slv, o_sll, o_op, o_if, o_d2, f_eq, f_ne, o_tup, o_len, o_bls, o_int, o_at, o_app, o_pop0, o_ins, o_cat, f_cnt, o_ty, o_isX, o_xf, o_cX, o_ran, o_sm, o_catchT, o_catchF, wE_oIf, gDivC, gModC, Option.isNone_none, Option.isNone_some, Option.bind_some, Bool.and_true, Bool.true_and, Bool.and_eq_true, decide_eq_true_eq, decide_eq_false_iff_not, v_catT, ln_sc, wE_ok, wE_exc, wE_bad, wE_bind, wS_nx, wS_rt, wS_bk, wS_ct, wS_exc, wS_bad, wS_bSeq, w_bNil, w_sBrk, w_sCnt, w_sIf, w_sRet, w_sRetN, w_sSet, w_sSetL, w_sExp, w_eBin, w_lBin, w_eUn, w_lUn, w_tOf, w_tAnd2, w_tOr2, w_tNot1, w_eAnd, w_eOr, w_eNot, w_eIf, w_eC, w_eTup, w_lLst, w_aNil, w_aCons, w_eIm, w_eAl, w_eCall, w_eFld, w_eM1, w_eM0, w_eM2, w_eMeth, w_ePrp, w_eNew, w_sFldW, w_sDel, w_sRaise1, v_add, v_addS, v_sub, v_mul, v_div, v_mod, v_lt, v_le, v_gt, v_ge, v_isN, v_notN, v_neg, v_int, v_intB, v_abs, v_max2, v_min2, v_eq, v_ne, v_tup, v_seqL, v_bls, v_ints, v_app, v_popAt, v_pop, v_ins, v_cat, v_cnt, w_eIsT, w_eVar, w_eIsX, w_eXf, w_eCallX, w_iRan1, w_iSeq, w_iOwn, w_lComp, w_sFor, w_for0, w_for1, w_gN, w_gSet, w_sTry, w_catch0, w_catch, w_aftX, w_sAsg, w_lCut, w_oNone, w_oSome, w_tYes, dat_cs, dat_non, dat_bl, dat_int, eqv_int, eqv_bool, eqv_cs, eqv_str, eqv_l00, eqv_l10, eqv_t00, eqv_t10, wE_mkFF, r_lstR, r_lstM, r_seqW, r_lstW, r_isL, r_insAt, r_tyW, r_srcW, r_dat, s_im, s_tup, s_lr, s_sc, l_im, l_lr, l_sc, m_im, m_lr, i_im, i_lr, i_sc, c_im, c_tup, c_sc, t_tup, t_im, t_int, t_bl, t_str, t_non, ln_ref, ln_tup, ln_im, ln_lr, ix_ref, ix_tup', ix_im, ix_lr, ix_sc, isN_ref, isN_non, isN_tup, isN_int, isN_bl, isN_str, isN_im, List.map_cons, List.map_nil, List.cons_append, List.nil_append, List.append_nil, List.getElem?_cons_zero, List.getElem?_cons_succ, List.set_cons_zero, List.set_cons_succ, List.replicate_succ, List.replicate_zero, List.length_cons, List.length_nil, List.lookup, il_int, il_bl, il_str, il_non, il_tup, il_im, il_sc, il_ref, il_cl, il_lr, ixN_zero, it_NoneType_bool, it_NoneType_int, it_NoneType_str, it_NoneType_tuple, it_NoneType_list, it_NoneType_dict, it_bool_bool, it_bool_int, it_bool_str, it_bool_tuple, it_bool_list, it_bool_dict, it_int_bool, it_int_int, it_int_str, it_int_tuple, it_int_list, it_int_dict, it_str_bool, it_str_int, it_str_str, it_str_tuple, it_str_list, it_str_dict, it_tuple_bool, it_tuple_int, it_tuple_str, it_tuple_tuple, it_tuple_list, it_tuple_dict, it_list_bool, it_list_int, it_list_str, it_list_tuple, it_list_list, it_list_dict, it_dict_bool, it_dict_int, it_dict_str, it_dict_tuple, it_dict_list, it_dict_dict, eq_self, Bool.not_true, Bool.not_false, decide_true, decide_false, true_and, and_true, Option.some.injEq, exists_eq_left, exists_eq_left', exists_eq_right, W.bl.injEq, W.int.injEq, Bool.false_eq_true, Bool.true_eq_false, reduceCtorEq, false_and, exists_false, and_self, forall_const, false_implies, true_implies, if_true, if_false, Int.reduceLE, Int.reduceLT, Int.reduceNeg, Nat.reduceLeDiff, Nat.reduceAdd, Nat.reduceSub, String.reduceEq, String.reduceBEq, String.reduceBNe, wE_mkFX, List.lookup_cons_self, beq_self_eq_true, Option.map_some, Option.map_none]; exact q
    · try simp (config := { dsimp := false }) only [o_bl, o_slv, o_sll, o_op, o_if, o_d2, f_eq, f_ne, o_tup, o_len, o_bls, o_int, o_at, o_app, o_pop0, o_ins, o_cat, f_cnt, o_ty, o_isX, o_xf, o_cX, o_ran, o_sm, o_catchT, o_catchF, wE_oIf, gDivC, gModC, Option.isNone_none, Option.isNone_some, Option.bind_some, Bool.and_true, Bool.true_and, Bool.and_eq_true, decide_eq_true_eq, decide_eq_false_iff_not, v_catT, ln_sc, wE_ok, wE_exc, wE_bad, wE_bind, wS_nx, wS_rt, wS_bk, wS_ct, wS_exc, wS_bad, wS_bSeq, w_bNil, w_sBrk, w_sCnt, w_sIf, w_sRet, w_sRetN, w_sSet, w_sSetL, w_sExp, w_eBin, w_lBin, w_eUn, w_lUn, w_tOf, w_tAnd2, w_tOr2, w_tNot1, w_eAnd, w_eOr, w_eNot, w_eIf, w_eC, w_eTup, w_lLst, w_aNil, w_aCons, w_eIm, w_eAl, w_eCall, w_eFld, w_eM1, w_eM0, w_eM2, w_eMeth, w_ePrp, w_eNew, w_sFldW, w_sDel, w_sRaise1, v_add, v_addS, v_sub, v_mul, v_div, v_mod, v_lt, v_le, v_gt, v_ge, v_isN, v_notN, v_neg, v_int, v_intB, v_abs, v_max2, v_min2, v_eq, v_ne, v_tup, v_seqL, v_bls, v_ints, v_app, v_popAt, v_pop, v_ins, v_cat, v_cnt, w_eIsT, w_eVar, w_eIsX, w_eXf, w_eCallX, w_iRan1, w_iSeq, w_iOwn, w_lComp, w_sFor, w_for0, w_for1, w_gN, w_gSet, w_sTry, w_catch0, w_catch, w_aftX, w_sAsg, w_lCut, w_oNone, w_oSome, w_tYes, dat_cs, dat_non, dat_bl, dat_int, eqv_int, eqv_bool, eqv_cs, eqv_str, eqv_l00, eqv_l10, eqv_t00, eqv_t10, wE_mkFF, r_lstR, r_lstM, r_seqW, r_lstW, r_isL, r_insAt, r_tyW, r_srcW, r_dat, s_im, s_tup, s_lr, s_sc, l_im, l_lr, l_sc, m_im, m_lr, i_im, i_lr, i_sc, c_im, c_tup, c_sc, t_tup, t_im, t_int, t_bl, t_str, t_non, ln_ref, ln_tup, ln_im, ln_lr, ix_ref, ix_tup', ix_im, ix_lr, ix_sc, isN_ref, isN_non, isN_tup, isN_int, isN_bl, isN_str, isN_im, List.map_cons, List.map_nil, List.cons_append, List.nil_append, List.append_nil, List.getElem?_cons_zero, List.getElem?_cons_succ, List.set_cons_zero, List.set_cons_succ, List.replicate_succ, List.replicate_zero, List.length_cons, List.length_nil, List.lookup, il_int, il_bl, il_str, il_non, il_tup, il_im, il_sc, il_ref, il_cl, il_lr, ixN_zero, it_NoneType_bool, it_NoneType_int, it_NoneType_str, it_NoneType_tuple, it_NoneType_list, it_NoneType_dict, it_bool_bool, it_bool_int, it_bool_str, it_bool_tuple, it_bool_list, it_bool_dict, it_int_bool, it_int_int, it_int_str, it_int_tuple, it_int_list, it_int_dict, it_str_bool, it_str_int, it_str_str, it_str_tuple, it_str_list, it_str_dict, it_tuple_bool, it_tuple_int, it_tuple_str, it_tuple_tuple, it_tuple_list, it_tuple_dict, it_list_bool, it_list_int, it_list_str, it_list_tuple, it_list_list, it_list_dict, it_dict_bool, it_dict_int, it_dict_str, it_dict_tuple, it_dict_list, it_dict_dict, eq_self, Bool.not_true, Bool.not_false, decide_true, decide_false, true_and, and_true, Option.some.injEq, exists_eq_left, exists_eq_left', exists_eq_right, W.bl.injEq, W.int.injEq, Bool.false_eq_true, Bool.true_eq_false, reduceCtorEq, false_and, exists_false, and_self, forall_const, false_implies, true_implies, if_true, if_false, Int.reduceLE, Int.reduceLT, Int.reduceNeg, Nat.reduceLeDiff, Nat.reduceAdd, Nat.reduceSub, String.reduceEq, String.reduceBEq, String.reduceBNe, wE_mkFX, List.lookup_cons_self, beq_self_eq_true, Option.map_some, Option.map_none, dat_str h]; exact q
    · rename_i ws
      have hlen := h.1
      try simp (config := { dsimp := false }) only [o_bl, o_slv, o_sll, o_op, o_if, o_d2, f_eq, f_ne, o_tup, o_len, o_bls, o_int, o_at, o_app, o_pop0, o_ins, o_cat, f_cnt, o_ty, o_isX, o_xf, o_cX, o_ran, o_sm, o_catchT, o_catchF, wE_oIf, gDivC, gModC, Option.isNone_none, Option.isNone_some, Option.bind_some, Bool.and_true, Bool.true_and, Bool.and_eq_true, decide_eq_true_eq, decide_eq_false_iff_not, v_catT, ln_sc, wE_ok, wE_exc, wE_bad, wE_bind, wS_nx, wS_rt, wS_bk, wS_ct, wS_exc, wS_bad, wS_bSeq, w_bNil, w_sBrk, w_sCnt, w_sIf, w_sRet, w_sRetN, w_sSet, w_sSetL, w_sExp, w_eBin, w_lBin, w_eUn, w_lUn, w_tOf, w_tAnd2, w_tOr2, w_tNot1, w_eAnd, w_eOr, w_eNot, w_eIf, w_eC, w_eTup, w_lLst, w_aNil, w_aCons, w_eIm, w_eAl, w_eCall, w_eFld, w_eM1, w_eM0, w_eM2, w_eMeth, w_ePrp, w_eNew, w_sFldW, w_sDel, w_sRaise1, v_add, v_addS, v_sub, v_mul, v_div, v_mod, v_lt, v_le, v_gt, v_ge, v_isN, v_notN, v_neg, v_int, v_intB, v_abs, v_max2, v_min2, v_eq, v_ne, v_tup, v_seqL, v_bls, v_ints, v_app, v_popAt, v_pop, v_ins, v_cat, v_cnt, w_eIsT, w_eVar, w_eIsX, w_eXf, w_eCallX, w_iRan1, w_iSeq, w_iOwn, w_lComp, w_sFor, w_for0, w_for1, w_gN, w_gSet, w_sTry, w_catch0, w_catch, w_aftX, w_sAsg, w_lCut, w_oNone, w_oSome, w_tYes, dat_cs, dat_non, dat_bl, dat_int, eqv_int, eqv_bool, eqv_cs, eqv_str, eqv_l00, eqv_l10, eqv_t00, eqv_t10, wE_mkFF, r_lstR, r_lstM, r_seqW, r_lstW, r_isL, r_insAt, r_tyW, r_srcW, r_dat, s_im, s_tup, s_lr, s_sc, l_im, l_lr, l_sc, m_im, m_lr, i_im, i_lr, i_sc, c_im, c_tup, c_sc, t_tup, t_im, t_int, t_bl, t_str, t_non, ln_ref, ln_tup, ln_im, ln_lr, ix_ref, ix_tup', ix_im, ix_lr, ix_sc, isN_ref, isN_non, isN_tup, isN_int, isN_bl, isN_str, isN_im, List.map_cons, List.map_nil, List.cons_append, List.nil_append, List.append_nil, List.getElem?_cons_zero, List.getElem?_cons_succ, List.set_cons_zero, List.set_cons_succ, List.replicate_succ, List.replicate_zero, List.length_cons, List.length_nil, List.lookup, il_int, il_bl, il_str, il_non, il_tup, il_im, il_sc, il_ref, il_cl, il_lr, ixN_zero, it_NoneType_bool, it_NoneType_int, it_NoneType_str, it_NoneType_tuple, it_NoneType_list, it_NoneType_dict, it_bool_bool, it_bool_int, it_bool_str, it_bool_tuple, it_bool_list, it_bool_dict, it_int_bool, it_int_int, it_int_str, it_int_tuple, it_int_list, it_int_dict, it_str_bool, it_str_int, it_str_str, it_str_tuple, it_str_list, it_str_dict, it_tuple_bool, it_tuple_int, it_tuple_str, it_tuple_tuple, it_tuple_list, it_tuple_dict, it_list_bool, it_list_int, it_list_str, it_list_tuple, it_list_list, it_list_dict, it_dict_bool, it_dict_int, it_dict_str, it_dict_tuple, it_dict_list, it_dict_dict, eq_self, Bool.not_true, Bool.not_false, decide_true, decide_false, true_and, and_true, Option.some.injEq, exists_eq_left, exists_eq_left', exists_eq_right, W.bl.injEq, W.int.injEq, Bool.false_eq_true, Bool.true_eq_false, reduceCtorEq, false_and, exists_false, and_self, forall_const, false_implies, true_implies, if_true, if_false, Int.reduceLE, Int.reduceLT, Int.reduceNeg, Nat.reduceLeDiff, Nat.reduceAdd, Nat.reduceSub, String.reduceEq, String.reduceBEq, String.reduceBNe, wE_mkFX, List.lookup_cons_self, beq_self_eq_true, Option.map_some, Option.map_none]
      refine ⟨by unfold smallI; simp; omega, ?_⟩
      refine compL_inv (fun i s acc => s = st ∧ acc = List.replicate i (.bl true) ∧ i ≤ ws.length) ?_ _ 0 st [] ⟨rfl, rfl, Nat.zero_le _⟩ ?_ ?_
      · exact fun _ _ _ _ => trivial
      · rintro i w s acc hw ⟨rfl, rfl, hi⟩
        rw [rangeW_get] at hw
        by_cases hlt : i < ws.length
        · rw [if_pos (by omega)] at hw
          cases hw
          refine ⟨_, _, rfl, ?_⟩
          have ha : atW ws (0 + (i : Int)) = some ws[i] := by
            unfold atW
            rw [ixN_of (by omega) (by omega)]
            simp [hlt]
          try simp (config := { dsimp := false }) only [o_bl, o_slv, o_sll, o_op, o_if, o_d2, f_eq, f_ne, o_tup, o_len, o_bls, o_int, o_at, o_app, o_pop0, o_ins, o_cat, f_cnt, o_ty, o_isX, o_xf, o_cX, o_ran, o_sm, o_catchT, o_catchF, wE_oIf, gDivC, gModC, Option.isNone_none, Option.isNone_some, Option.bind_some, Bool.and_true, Bool.true_and, Bool.and_eq_true, decide_eq_true_eq, decide_eq_false_iff_not, v_catT, ln_sc, wE_ok, wE_exc, wE_bad, wE_bind, wS_nx, wS_rt, wS_bk, wS_ct, wS_exc, wS_bad, wS_bSeq, w_bNil, w_sBrk, w_sCnt, w_sIf, w_sRet, w_sRetN, w_sSet, w_sSetL, w_sExp, w_eBin, w_lBin, w_eUn, w_lUn, w_tOf, w_tAnd2, w_tOr2, w_tNot1, w_eAnd, w_eOr, w_eNot, w_eIf, w_eC, w_eTup, w_lLst, w_aNil, w_aCons, w_eIm, w_eAl, w_eCall, w_eFld, w_eM1, w_eM0, w_eM2, w_eMeth, w_ePrp, w_eNew, w_sFldW, w_sDel, w_sRaise1, v_add, v_addS, v_sub, v_mul, v_div, v_mod, v_lt, v_le, v_gt, v_ge, v_isN, v_notN, v_neg, v_int, v_intB, v_abs, v_max2, v_min2, v_eq, v_ne, v_tup, v_seqL, v_bls, v_ints, v_app, v_popAt, v_pop, v_ins, v_cat, v_cnt, w_eIsT, w_eVar, w_eIsX, w_eXf, w_eCallX, w_iRan1, w_iSeq, w_iOwn, w_lComp, w_sFor, w_for0, w_for1, w_gN, w_gSet, w_sTry, w_catch0, w_catch, w_aftX, w_sAsg, w_lCut, w_oNone, w_oSome, w_tYes, dat_cs, dat_non, dat_bl, dat_int, eqv_int, eqv_bool, eqv_cs, eqv_str, eqv_l00, eqv_l10, eqv_t00, eqv_t10, wE_mkFF, r_lstR, r_lstM, r_seqW, r_lstW, r_isL, r_insAt, r_tyW, r_srcW, r_dat, s_im, s_tup, s_lr, s_sc, l_im, l_lr, l_sc, m_im, m_lr, i_im, i_lr, i_sc, c_im, c_tup, c_sc, t_tup, t_im, t_int, t_bl, t_str, t_non, ln_ref, ln_tup, ln_im, ln_lr, ix_ref, ix_tup', ix_im, ix_lr, ix_sc, isN_ref, isN_non, isN_tup, isN_int, isN_bl, isN_str, isN_im, List.map_cons, List.map_nil, List.cons_append, List.nil_append, List.append_nil, List.getElem?_cons_zero, List.getElem?_cons_succ, List.set_cons_zero, List.set_cons_succ, List.replicate_succ, List.replicate_zero, List.length_cons, List.length_nil, List.lookup, il_int, il_bl, il_str, il_non, il_tup, il_im, il_sc, il_ref, il_cl, il_lr, ixN_zero, it_NoneType_bool, it_NoneType_int, it_NoneType_str, it_NoneType_tuple, it_NoneType_list, it_NoneType_dict, it_bool_bool, it_bool_int, it_bool_str, it_bool_tuple, it_bool_list, it_bool_dict, it_int_bool, it_int_int, it_int_str, it_int_tuple, it_int_list, it_int_dict, it_str_bool, it_str_int, it_str_str, it_str_tuple, it_str_list, it_str_dict, it_tuple_bool, it_tuple_int, it_tuple_str, it_tuple_tuple, it_tuple_list, it_tuple_dict, it_list_bool, it_list_int, it_list_str, it_list_tuple, it_list_list, it_list_dict, it_dict_bool, it_dict_int, it_dict_str, it_dict_tuple, it_dict_list, it_dict_dict, eq_self, Bool.not_true, Bool.not_false, decide_true, decide_false, true_and, and_true, Option.some.injEq, exists_eq_left, exists_eq_left', exists_eq_right, W.bl.injEq, W.int.injEq, Bool.false_eq_true, Bool.true_eq_false, reduceCtorEq, false_and, exists_false, and_self, forall_const, false_implies, true_implies, if_true, if_false, Int.reduceLE, Int.reduceLT, Int.reduceNeg, Nat.reduceLeDiff, Nat.reduceAdd, Nat.reduceSub, String.reduceEq, String.reduceBEq, String.reduceBNe, wE_mkFX, List.lookup_cons_self, beq_self_eq_true, Option.map_some, Option.map_none, wipeE, ha, Nat.zero_add]
          have hf := h.2 _ (List.getElem_mem hlt)
          refine ⟨isLr_fl hf, isLr_fl hf, ih hf ?_⟩
          try simp (config := { dsimp := false }) only [o_bl, o_slv, o_sll, o_op, o_if, o_d2, f_eq, f_ne, o_tup, o_len, o_bls, o_int, o_at, o_app, o_pop0, o_ins, o_cat, f_cnt, o_ty, o_isX, o_xf, o_cX, o_ran, o_sm, o_catchT, o_catchF, wE_oIf, gDivC, gModC, Option.isNone_none, Option.isNone_some, Option.bind_some, Bool.and_true, Bool.true_and, Bool.and_eq_true, decide_eq_true_eq, decide_eq_false_iff_not, v_catT, ln_sc, wE_ok, wE_exc, wE_bad, wE_bind, wS_nx, wS_rt, wS_bk, wS_ct, wS_exc, wS_bad, wS_bSeq, w_bNil, w_sBrk, w_sCnt, w_sIf, w_sRet, w_sRetN, w_sSet, w_sSetL, w_sExp, w_eBin, w_lBin, w_eUn, w_lUn, w_tOf, w_tAnd2, w_tOr2, w_tNot1, w_eAnd, w_eOr, w_eNot, w_eIf, w_eC, w_eTup, w_lLst, w_aNil, w_aCons, w_eIm, w_eAl, w_eCall, w_eFld, w_eM1, w_eM0, w_eM2, w_eMeth, w_ePrp, w_eNew, w_sFldW, w_sDel, w_sRaise1, v_add, v_addS, v_sub, v_mul, v_div, v_mod, v_lt, v_le, v_gt, v_ge, v_isN, v_notN, v_neg, v_int, v_intB, v_abs, v_max2, v_min2, v_eq, v_ne, v_tup, v_seqL, v_bls, v_ints, v_app, v_popAt, v_pop, v_ins, v_cat, v_cnt, w_eIsT, w_eVar, w_eIsX, w_eXf, w_eCallX, w_iRan1, w_iSeq, w_iOwn, w_lComp, w_sFor, w_for0, w_for1, w_gN, w_gSet, w_sTry, w_catch0, w_catch, w_aftX, w_sAsg, w_lCut, w_oNone, w_oSome, w_tYes, dat_cs, dat_non, dat_bl, dat_int, eqv_int, eqv_bool, eqv_cs, eqv_str, eqv_l00, eqv_l10, eqv_t00, eqv_t10, wE_mkFF, r_lstR, r_lstM, r_seqW, r_lstW, r_isL, r_insAt, r_tyW, r_srcW, r_dat, s_im, s_tup, s_lr, s_sc, l_im, l_lr, l_sc, m_im, m_lr, i_im, i_lr, i_sc, c_im, c_tup, c_sc, t_tup, t_im, t_int, t_bl, t_str, t_non, ln_ref, ln_tup, ln_im, ln_lr, ix_ref, ix_tup', ix_im, ix_lr, ix_sc, isN_ref, isN_non, isN_tup, isN_int, isN_bl, isN_str, isN_im, List.map_cons, List.map_nil, List.cons_append, List.nil_append, List.append_nil, List.getElem?_cons_zero, List.getElem?_cons_succ, List.set_cons_zero, List.set_cons_succ, List.replicate_succ, List.replicate_zero, List.length_cons, List.length_nil, List.lookup, il_int, il_bl, il_str, il_non, il_tup, il_im, il_sc, il_ref, il_cl, il_lr, ixN_zero, it_NoneType_bool, it_NoneType_int, it_NoneType_str, it_NoneType_tuple, it_NoneType_list, it_NoneType_dict, it_bool_bool, it_bool_int, it_bool_str, it_bool_tuple, it_bool_list, it_bool_dict, it_int_bool, it_int_int, it_int_str, it_int_tuple, it_int_list, it_int_dict, it_str_bool, it_str_int, it_str_str, it_str_tuple, it_str_list, it_str_dict, it_tuple_bool, it_tuple_int, it_tuple_str, it_tuple_tuple, it_tuple_list, it_tuple_dict, it_list_bool, it_list_int, it_list_str, it_list_tuple, it_list_list, it_list_dict, it_dict_bool, it_dict_int, it_dict_str, it_dict_tuple, it_dict_list, it_dict_dict, eq_self, Bool.not_true, Bool.not_false, decide_true, decide_false, true_and, and_true, Option.some.injEq, exists_eq_left, exists_eq_left', exists_eq_right, W.bl.injEq, W.int.injEq, Bool.false_eq_true, Bool.true_eq_false, reduceCtorEq, false_and, exists_false, and_self, forall_const, false_implies, true_implies, if_true, if_false, Int.reduceLE, Int.reduceLT, Int.reduceNeg, Nat.reduceLeDiff, Nat.reduceAdd, Nat.reduceSub, String.reduceEq, String.reduceBEq, String.reduceBNe, wE_mkFX, List.lookup_cons_self, beq_self_eq_true, Option.map_some, Option.map_none, List.length_replicate]
          exact ⟨by omega, List.replicate_succ'.symm.trans List.replicate_succ, by omega⟩
        · rw [if_neg (by omega)] at hw; cases hw
      · rintro s acc ⟨rfl, rfl, hi⟩
        have hb : ∀ k : Nat, blsW (List.replicate k (.bl true)) = some (List.replicate k true) := by
          intro k
          induction k with
          | zero => rfl
          | succ k ih => simp only [List.replicate_succ, blsW, ih]; rfl
        try simp (config := { dsimp := false }) only [o_bl, o_slv, o_sll, o_op, o_if, o_d2, f_eq, f_ne, o_tup, o_len, o_bls, o_int, o_at, o_app, o_pop0, o_ins, o_cat, f_cnt, o_ty, o_isX, o_xf, o_cX, o_ran, o_sm, o_catchT, o_catchF, wE_oIf, gDivC, gModC, Option.isNone_none, Option.isNone_some, Option.bind_some, Bool.and_true, Bool.true_and, Bool.and_eq_true, decide_eq_true_eq, decide_eq_false_iff_not, v_catT, ln_sc, wE_ok, wE_exc, wE_bad, wE_bind, wS_nx, wS_rt, wS_bk, wS_ct, wS_exc, wS_bad, wS_bSeq, w_bNil, w_sBrk, w_sCnt, w_sIf, w_sRet, w_sRetN, w_sSet, w_sSetL, w_sExp, w_eBin, w_lBin, w_eUn, w_lUn, w_tOf, w_tAnd2, w_tOr2, w_tNot1, w_eAnd, w_eOr, w_eNot, w_eIf, w_eC, w_eTup, w_lLst, w_aNil, w_aCons, w_eIm, w_eAl, w_eCall, w_eFld, w_eM1, w_eM0, w_eM2, w_eMeth, w_ePrp, w_eNew, w_sFldW, w_sDel, w_sRaise1, v_add, v_addS, v_sub, v_mul, v_div, v_mod, v_lt, v_le, v_gt, v_ge, v_isN, v_notN, v_neg, v_int, v_intB, v_abs, v_max2, v_min2, v_eq, v_ne, v_tup, v_seqL, v_bls, v_ints, v_app, v_popAt, v_pop, v_ins, v_cat, v_cnt, w_eIsT, w_eVar, w_eIsX, w_eXf, w_eCallX, w_iRan1, w_iSeq, w_iOwn, w_lComp, w_sFor, w_for0, w_for1, w_gN, w_gSet, w_sTry, w_catch0, w_catch, w_aftX, w_sAsg, w_lCut, w_oNone, w_oSome, w_tYes, dat_cs, dat_non, dat_bl, dat_int, eqv_int, eqv_bool, eqv_cs, eqv_str, eqv_l00, eqv_l10, eqv_t00, eqv_t10, wE_mkFF, r_lstR, r_lstM, r_seqW, r_lstW, r_isL, r_insAt, r_tyW, r_srcW, r_dat, s_im, s_tup, s_lr, s_sc, l_im, l_lr, l_sc, m_im, m_lr, i_im, i_lr, i_sc, c_im, c_tup, c_sc, t_tup, t_im, t_int, t_bl, t_str, t_non, ln_ref, ln_tup, ln_im, ln_lr, ix_ref, ix_tup', ix_im, ix_lr, ix_sc, isN_ref, isN_non, isN_tup, isN_int, isN_bl, isN_str, isN_im, List.map_cons, List.map_nil, List.cons_append, List.nil_append, List.append_nil, List.getElem?_cons_zero, List.getElem?_cons_succ, List.set_cons_zero, List.set_cons_succ, List.replicate_succ, List.replicate_zero, List.length_cons, List.length_nil, List.lookup, il_int, il_bl, il_str, il_non, il_tup, il_im, il_sc, il_ref, il_cl, il_lr, ixN_zero, it_NoneType_bool, it_NoneType_int, it_NoneType_str, it_NoneType_tuple, it_NoneType_list, it_NoneType_dict, it_bool_bool, it_bool_int, it_bool_str, it_bool_tuple, it_bool_list, it_bool_dict, it_int_bool, it_int_int, it_int_str, it_int_tuple, it_int_list, it_int_dict, it_str_bool, it_str_int, it_str_str, it_str_tuple, it_str_list, it_str_dict, it_tuple_bool, it_tuple_int, it_tuple_str, it_tuple_tuple, it_tuple_list, it_tuple_dict, it_list_bool, it_list_int, it_list_str, it_list_tuple, it_list_list, it_list_dict, it_dict_bool, it_dict_int, it_dict_str, it_dict_tuple, it_dict_list, it_dict_dict, eq_self, Bool.not_true, Bool.not_false, decide_true, decide_false, true_and, and_true, Option.some.injEq, exists_eq_left, exists_eq_left', exists_eq_right, W.bl.injEq, W.int.injEq, Bool.false_eq_true, Bool.true_eq_false, reduceCtorEq, false_and, exists_false, and_self, forall_const, false_implies, true_implies, if_true, if_false, Int.reduceLE, Int.reduceLT, Int.reduceNeg, Nat.reduceLeDiff, Nat.reduceAdd, Nat.reduceSub, String.reduceEq, String.reduceBEq, String.reduceBNe, wE_mkFX, List.lookup_cons_self, beq_self_eq_true, Option.map_some, Option.map_none, hb]
        have : ((List.replicate (0 + (rangeW 0 (ws.length : Int).toNat).length) true).all fun b => b) = true := by simp
        rw [this]; exact q
/-! ### nets -/
def IsNet (st : Store) (a b : Nat) (L : List W) : Prop := st[a]? = some (.ins 21 [("_letters", .ref b)]) ∧ st[b]? = some (.lst L)
theorem send_ok {st : Store} {a b : Nat} {L us : List W} {x : W} {Q : W → Store → Prop} {E : EX} (h : IsNet st a b L) (hx : seqW st x = some us) (q1 : 200 ≤ L.length → Q (.bl false) st) (q2 : L.length < 200 → Q (.bl true) (st.set b (.lst (L ++ [.tup us])))) :
    wE (f_Net_send [.ref a, x] st) Q E := by
  obtain ⟨h1, h2⟩ := h
  unfold f_Net_send
  try simp (config := { dsimp := false }) only [o_bl, o_slv, o_sll, o_op, o_if, o_d2, f_eq, f_ne, o_tup, o_len, o_bls, o_int, o_at, o_app, o_pop0, o_ins, o_cat, f_cnt, o_ty, o_isX, o_xf, o_cX, o_ran, o_sm, o_catchT, o_catchF, wE_oIf, gDivC, gModC, Option.isNone_none, Option.isNone_some, Option.bind_some, Bool.and_true, Bool.true_and, Bool.and_eq_true, decide_eq_true_eq, decide_eq_false_iff_not, v_catT, ln_sc, wE_ok, wE_exc, wE_bad, wE_bind, wS_nx, wS_rt, wS_bk, wS_ct, wS_exc, wS_bad, wS_bSeq, w_bNil, w_sBrk, w_sCnt, w_sIf, w_sRet, w_sRetN, w_sSet, w_sSetL, w_sExp, w_eBin, w_lBin, w_eUn, w_lUn, w_tOf, w_tAnd2, w_tOr2, w_tNot1, w_eAnd, w_eOr, w_eNot, w_eIf, w_eC, w_eTup, w_lLst, w_aNil, w_aCons, w_eIm, w_eAl, w_eCall, w_eFld, w_eM1, w_eM0, w_eM2, w_eMeth, w_ePrp, w_eNew, w_sFldW, w_sDel, w_sRaise1, v_add, v_addS, v_sub, v_mul, v_div, v_mod, v_lt, v_le, v_gt, v_ge, v_isN, v_notN, v_neg, v_int, v_intB, v_abs, v_max2, v_min2, v_eq, v_ne, v_tup, v_seqL, v_bls, v_ints, v_app, v_popAt, v_pop, v_ins, v_cat, v_cnt, w_eIsT, w_eVar, w_eIsX, w_eXf, w_eCallX, w_iRan1, w_iSeq, w_iOwn, w_lComp, w_sFor, w_for0, w_for1, w_gN, w_gSet, w_sTry, w_catch0, w_catch, w_aftX, w_sAsg, w_lCut, w_oNone, w_oSome, w_tYes, dat_cs, dat_non, dat_bl, dat_int, eqv_int, eqv_bool, eqv_cs, eqv_str, eqv_l00, eqv_l10, eqv_t00, eqv_t10, wE_mkFF, r_lstR, r_lstM, r_seqW, r_lstW, r_isL, r_insAt, r_tyW, r_srcW, r_dat, s_im, s_tup, s_lr, s_sc, l_im, l_lr, l_sc, m_im, m_lr, i_im, i_lr, i_sc, c_im, c_tup, c_sc, t_tup, t_im, t_int, t_bl, t_str, t_non, ln_ref, ln_tup, ln_im, ln_lr, ix_ref, ix_tup', ix_im, ix_lr, ix_sc, isN_ref, isN_non, isN_tup, isN_int, isN_bl, isN_str, isN_im, List.map_cons, List.map_nil, List.cons_append, List.nil_append, List.append_nil, List.getElem?_cons_zero, List.getElem?_cons_succ, List.set_cons_zero, List.set_cons_succ, List.replicate_succ, List.replicate_zero, List.length_cons, List.length_nil, List.lookup, il_int, il_bl, il_str, il_non, il_tup, il_im, il_sc, il_ref, il_cl, il_lr, ixN_zero, it_NoneType_bool, it_NoneType_int, it_NoneType_str, it_NoneType_tuple, it_NoneType_list, it_NoneType_dict, it_bool_bool, it_bool_int, it_bool_str, it_bool_tuple, it_bool_list, it_bool_dict, it_int_bool, it_int_int, it_int_str, it_int_tuple, it_int_list, it_int_dict, it_str_bool, it_str_int, it_str_str, it_str_tuple, it_str_list, it_str_dict, it_tuple_bool, it_tuple_int, it_tuple_str, it_tuple_tuple, it_tuple_list, it_tuple_dict, it_list_bool, it_list_int, it_list_str, it_list_tuple, it_list_list, it_list_dict, it_dict_bool, it_dict_int, it_dict_str, it_dict_tuple, it_dict_list, it_dict_dict, eq_self, Bool.not_true, Bool.not_false, decide_true, decide_false, true_and, and_true, Option.some.injEq, exists_eq_left, exists_eq_left', exists_eq_right, W.bl.injEq, W.int.injEq, Bool.false_eq_true, Bool.true_eq_false, reduceCtorEq, false_and, exists_false, and_self, forall_const, false_implies, true_implies, if_true, if_false, Int.reduceLE, Int.reduceLT, Int.reduceNeg, Nat.reduceLeDiff, Nat.reduceAdd, Nat.reduceSub, String.reduceEq, String.reduceBEq, String.reduceBNe, wE_mkFX, List.lookup_cons_self, beq_self_eq_true, Option.map_some, Option.map_none, h1, h2, hx, fld__letters, decide_eq_true_eq, decide_eq_false_iff_not]
  refine ⟨fun c => q1 (by omega), fun c => ⟨by omega, q2 (by omega)⟩⟩
theorem at_ok {st : Store} {a b : Nat} {L : List W} {i : Int} {Q : W → Store → Prop} {E : EX} (h : IsNet st a b L) (hL : ∀ w ∈ L, isLr w = false) (q1 : ¬ (0 ≤ i ∧ i < L.length) → E 12 [("at", .int i)] st) (q2 : ∀ w, 0 ≤ i → i < L.length → L[i.toNat]? = some w → Q w st) :
    wE (f_Net_at [.ref a, .int i] st) Q E := by
  obtain ⟨h1, h2⟩ := h
  unfold f_Net_at
  try simp (config := { dsimp := false }) only [o_bl, o_slv, o_sll, o_op, o_if, o_d2, f_eq, f_ne, o_tup, o_len, o_bls, o_int, o_at, o_app, o_pop0, o_ins, o_cat, f_cnt, o_ty, o_isX, o_xf, o_cX, o_ran, o_sm, o_catchT, o_catchF, wE_oIf, gDivC, gModC, Option.isNone_none, Option.isNone_some, Option.bind_some, Bool.and_true, Bool.true_and, Bool.and_eq_true, decide_eq_true_eq, decide_eq_false_iff_not, v_catT, ln_sc, wE_ok, wE_exc, wE_bad, wE_bind, wS_nx, wS_rt, wS_bk, wS_ct, wS_exc, wS_bad, wS_bSeq, w_bNil, w_sBrk, w_sCnt, w_sIf, w_sRet, w_sRetN, w_sSet, w_sSetL, w_sExp, w_eBin, w_lBin, w_eUn, w_lUn, w_tOf, w_tAnd2, w_tOr2, w_tNot1, w_eAnd, w_eOr, w_eNot, w_eIf, w_eC, w_eTup, w_lLst, w_aNil, w_aCons, w_eIm, w_eAl, w_eCall, w_eFld, w_eM1, w_eM0, w_eM2, w_eMeth, w_ePrp, w_eNew, w_sFldW, w_sDel, w_sRaise1, v_add, v_addS, v_sub, v_mul, v_div, v_mod, v_lt, v_le, v_gt, v_ge, v_isN, v_notN, v_neg, v_int, v_intB, v_abs, v_max2, v_min2, v_eq, v_ne, v_tup, v_seqL, v_bls, v_ints, v_app, v_popAt, v_pop, v_ins, v_cat, v_cnt, w_eIsT, w_eVar, w_eIsX, w_eXf, w_eCallX, w_iRan1, w_iSeq, w_iOwn, w_lComp, w_sFor, w_for0, w_for1, w_gN, w_gSet, w_sTry, w_catch0, w_catch, w_aftX, w_sAsg, w_lCut, w_oNone, w_oSome, w_tYes, dat_cs, dat_non, dat_bl, dat_int, eqv_int, eqv_bool, eqv_cs, eqv_str, eqv_l00, eqv_l10, eqv_t00, eqv_t10, wE_mkFF, r_lstR, r_lstM, r_seqW, r_lstW, r_isL, r_insAt, r_tyW, r_srcW, r_dat, s_im, s_tup, s_lr, s_sc, l_im, l_lr, l_sc, m_im, m_lr, i_im, i_lr, i_sc, c_im, c_tup, c_sc, t_tup, t_im, t_int, t_bl, t_str, t_non, ln_ref, ln_tup, ln_im, ln_lr, ix_ref, ix_tup', ix_im, ix_lr, ix_sc, isN_ref, isN_non, isN_tup, isN_int, isN_bl, isN_str, isN_im, List.map_cons, List.map_nil, List.cons_append, List.nil_append, List.append_nil, List.getElem?_cons_zero, List.getElem?_cons_succ, List.set_cons_zero, List.set_cons_succ, List.replicate_succ, List.replicate_zero, List.length_cons, List.length_nil, List.lookup, il_int, il_bl, il_str, il_non, il_tup, il_im, il_sc, il_ref, il_cl, il_lr, ixN_zero, it_NoneType_bool, it_NoneType_int, it_NoneType_str, it_NoneType_tuple, it_NoneType_list, it_NoneType_dict, it_bool_bool, it_bool_int, it_bool_str, it_bool_tuple, it_bool_list, it_bool_dict, it_int_bool, it_int_int, it_int_str, it_int_tuple, it_int_list, it_int_dict, it_str_bool, it_str_int, it_str_str, it_str_tuple, it_str_list, it_str_dict, it_tuple_bool, it_tuple_int, it_tuple_str, it_tuple_tuple, it_tuple_list, it_tuple_dict, it_list_bool, it_list_int, it_list_str, it_list_tuple, it_list_list, it_list_dict, it_dict_bool, it_dict_int, it_dict_str, it_dict_tuple, it_dict_list, it_dict_dict, eq_self, Bool.not_true, Bool.not_false, decide_true, decide_false, true_and, and_true, Option.some.injEq, exists_eq_left, exists_eq_left', exists_eq_right, W.bl.injEq, W.int.injEq, Bool.false_eq_true, Bool.true_eq_false, reduceCtorEq, false_and, exists_false, and_self, forall_const, false_implies, true_implies, if_true, if_false, Int.reduceLE, Int.reduceLT, Int.reduceNeg, Nat.reduceLeDiff, Nat.reduceAdd, Nat.reduceSub, String.reduceEq, String.reduceBEq, String.reduceBNe, wE_mkFX, List.lookup_cons_self, beq_self_eq_true, Option.map_some, Option.map_none, h1, h2, fld__letters, decide_eq_true_eq, decide_eq_false_iff_not]
  refine ⟨fun c => q1 (by omega), fun c => ⟨fun d => q1 (by omega), fun d => ?_⟩⟩
  have hi : i.toNat < L.length := by omega
  have ha : atW L i = some L[i.toNat] := by
    unfold atW
    rw [ixN_of (by omega) (by omega)]
    simp [hi]
  try simp (config := { dsimp := false }) only [o_bl, o_slv, o_sll, o_op, o_if, o_d2, f_eq, f_ne, o_tup, o_len, o_bls, o_int, o_at, o_app, o_pop0, o_ins, o_cat, f_cnt, o_ty, o_isX, o_xf, o_cX, o_ran, o_sm, o_catchT, o_catchF, wE_oIf, gDivC, gModC, Option.isNone_none, Option.isNone_some, Option.bind_some, Bool.and_true, Bool.true_and, Bool.and_eq_true, decide_eq_true_eq, decide_eq_false_iff_not, v_catT, ln_sc, wE_ok, wE_exc, wE_bad, wE_bind, wS_nx, wS_rt, wS_bk, wS_ct, wS_exc, wS_bad, wS_bSeq, w_bNil, w_sBrk, w_sCnt, w_sIf, w_sRet, w_sRetN, w_sSet, w_sSetL, w_sExp, w_eBin, w_lBin, w_eUn, w_lUn, w_tOf, w_tAnd2, w_tOr2, w_tNot1, w_eAnd, w_eOr, w_eNot, w_eIf, w_eC, w_eTup, w_lLst, w_aNil, w_aCons, w_eIm, w_eAl, w_eCall, w_eFld, w_eM1, w_eM0, w_eM2, w_eMeth, w_ePrp, w_eNew, w_sFldW, w_sDel, w_sRaise1, v_add, v_addS, v_sub, v_mul, v_div, v_mod, v_lt, v_le, v_gt, v_ge, v_isN, v_notN, v_neg, v_int, v_intB, v_abs, v_max2, v_min2, v_eq, v_ne, v_tup, v_seqL, v_bls, v_ints, v_app, v_popAt, v_pop, v_ins, v_cat, v_cnt, w_eIsT, w_eVar, w_eIsX, w_eXf, w_eCallX, w_iRan1, w_iSeq, w_iOwn, w_lComp, w_sFor, w_for0, w_for1, w_gN, w_gSet, w_sTry, w_catch0, w_catch, w_aftX, w_sAsg, w_lCut, w_oNone, w_oSome, w_tYes, dat_cs, dat_non, dat_bl, dat_int, eqv_int, eqv_bool, eqv_cs, eqv_str, eqv_l00, eqv_l10, eqv_t00, eqv_t10, wE_mkFF, r_lstR, r_lstM, r_seqW, r_lstW, r_isL, r_insAt, r_tyW, r_srcW, r_dat, s_im, s_tup, s_lr, s_sc, l_im, l_lr, l_sc, m_im, m_lr, i_im, i_lr, i_sc, c_im, c_tup, c_sc, t_tup, t_im, t_int, t_bl, t_str, t_non, ln_ref, ln_tup, ln_im, ln_lr, ix_ref, ix_tup', ix_im, ix_lr, ix_sc, isN_ref, isN_non, isN_tup, isN_int, isN_bl, isN_str, isN_im, List.map_cons, List.map_nil, List.cons_append, List.nil_append, List.append_nil, List.getElem?_cons_zero, List.getElem?_cons_succ, List.set_cons_zero, List.set_cons_succ, List.replicate_succ, List.replicate_zero, List.length_cons, List.length_nil, List.lookup, il_int, il_bl, il_str, il_non, il_tup, il_im, il_sc, il_ref, il_cl, il_lr, ixN_zero, it_NoneType_bool, it_NoneType_int, it_NoneType_str, it_NoneType_tuple, it_NoneType_list, it_NoneType_dict, it_bool_bool, it_bool_int, it_bool_str, it_bool_tuple, it_bool_list, it_bool_dict, it_int_bool, it_int_int, it_int_str, it_int_tuple, it_int_list, it_int_dict, it_str_bool, it_str_int, it_str_str, it_str_tuple, it_str_list, it_str_dict, it_tuple_bool, it_tuple_int, it_tuple_str, it_tuple_tuple, it_tuple_list, it_tuple_dict, it_list_bool, it_list_int, it_list_str, it_list_tuple, it_list_list, it_list_dict, it_dict_bool, it_dict_int, it_dict_str, it_dict_tuple, it_dict_list, it_dict_dict, eq_self, Bool.not_true, Bool.not_false, decide_true, decide_false, true_and, and_true, Option.some.injEq, exists_eq_left, exists_eq_left', exists_eq_right, W.bl.injEq, W.int.injEq, Bool.false_eq_true, Bool.true_eq_false, reduceCtorEq, false_and, exists_false, and_self, forall_const, false_implies, true_implies, if_true, if_false, Int.reduceLE, Int.reduceLT, Int.reduceNeg, Nat.reduceLeDiff, Nat.reduceAdd, Nat.reduceSub, String.reduceEq, String.reduceBEq, String.reduceBNe, wE_mkFX, List.lookup_cons_self, beq_self_eq_true, Option.map_some, Option.map_none, ha]
  exact ⟨hL _ (List.getElem_mem hi), q2 _ (by omega) (by omega) (List.getElem?_eq_getElem hi)⟩
theorem take_ok {st : Store} {a b : Nat} {L : List W} {i : Int} {Q : W → Store → Prop} {E : EX} (h : IsNet st a b L) (hlen : L.length ≤ 200) (hL : ∀ w ∈ L, isLr w = false) (q1 : ¬ (0 ≤ i ∧ i < L.length) → E 12 [("at", .int i)] st) (q2 : ∀ w, 0 ≤ i → i < L.length → L[i.toNat]? = some w → Q w (st.set b (.lst (L.eraseIdx i.toNat)))) :
    wE (f_Net_take_out [.ref a, .int i] st) Q E := by
  obtain ⟨h1, h2⟩ := id h
  unfold f_Net_take_out
  try simp (config := { dsimp := false }) only [o_bl, o_slv, o_sll, o_op, o_if, o_d2, f_eq, f_ne, o_tup, o_len, o_bls, o_int, o_at, o_app, o_pop0, o_ins, o_cat, f_cnt, o_ty, o_isX, o_xf, o_cX, o_ran, o_sm, o_catchT, o_catchF, wE_oIf, gDivC, gModC, Option.isNone_none, Option.isNone_some, Option.bind_some, Bool.and_true, Bool.true_and, Bool.and_eq_true, decide_eq_true_eq, decide_eq_false_iff_not, v_catT, ln_sc, wE_ok, wE_exc, wE_bad, wE_bind, wS_nx, wS_rt, wS_bk, wS_ct, wS_exc, wS_bad, wS_bSeq, w_bNil, w_sBrk, w_sCnt, w_sIf, w_sRet, w_sRetN, w_sSet, w_sSetL, w_sExp, w_eBin, w_lBin, w_eUn, w_lUn, w_tOf, w_tAnd2, w_tOr2, w_tNot1, w_eAnd, w_eOr, w_eNot, w_eIf, w_eC, w_eTup, w_lLst, w_aNil, w_aCons, w_eIm, w_eAl, w_eCall, w_eFld, w_eM1, w_eM0, w_eM2, w_eMeth, w_ePrp, w_eNew, w_sFldW, w_sDel, w_sRaise1, v_add, v_addS, v_sub, v_mul, v_div, v_mod, v_lt, v_le, v_gt, v_ge, v_isN, v_notN, v_neg, v_int, v_intB, v_abs, v_max2, v_min2, v_eq, v_ne, v_tup, v_seqL, v_bls, v_ints, v_app, v_popAt, v_pop, v_ins, v_cat, v_cnt, w_eIsT, w_eVar, w_eIsX, w_eXf, w_eCallX, w_iRan1, w_iSeq, w_iOwn, w_lComp, w_sFor, w_for0, w_for1, w_gN, w_gSet, w_sTry, w_catch0, w_catch, w_aftX, w_sAsg, w_lCut, w_oNone, w_oSome, w_tYes, dat_cs, dat_non, dat_bl, dat_int, eqv_int, eqv_bool, eqv_cs, eqv_str, eqv_l00, eqv_l10, eqv_t00, eqv_t10, wE_mkFF, r_lstR, r_lstM, r_seqW, r_lstW, r_isL, r_insAt, r_tyW, r_srcW, r_dat, s_im, s_tup, s_lr, s_sc, l_im, l_lr, l_sc, m_im, m_lr, i_im, i_lr, i_sc, c_im, c_tup, c_sc, t_tup, t_im, t_int, t_bl, t_str, t_non, ln_ref, ln_tup, ln_im, ln_lr, ix_ref, ix_tup', ix_im, ix_lr, ix_sc, isN_ref, isN_non, isN_tup, isN_int, isN_bl, isN_str, isN_im, List.map_cons, List.map_nil, List.cons_append, List.nil_append, List.append_nil, List.getElem?_cons_zero, List.getElem?_cons_succ, List.set_cons_zero, List.set_cons_succ, List.replicate_succ, List.replicate_zero, List.length_cons, List.length_nil, List.lookup, il_int, il_bl, il_str, il_non, il_tup, il_im, il_sc, il_ref, il_cl, il_lr, ixN_zero, it_NoneType_bool, it_NoneType_int, it_NoneType_str, it_NoneType_tuple, it_NoneType_list, it_NoneType_dict, it_bool_bool, it_bool_int, it_bool_str, it_bool_tuple, it_bool_list, it_bool_dict, it_int_bool, it_int_int, it_int_str, it_int_tuple, it_int_list, it_int_dict, it_str_bool, it_str_int, it_str_str, it_str_tuple, it_str_list, it_str_dict, it_tuple_bool, it_tuple_int, it_tuple_str, it_tuple_tuple, it_tuple_list, it_tuple_dict, it_list_bool, it_list_int, it_list_str, it_list_tuple, it_list_list, it_list_dict, it_dict_bool, it_dict_int, it_dict_str, it_dict_tuple, it_dict_list, it_dict_dict, eq_self, Bool.not_true, Bool.not_false, decide_true, decide_false, true_and, and_true, Option.some.injEq, exists_eq_left, exists_eq_left', exists_eq_right, W.bl.injEq, W.int.injEq, Bool.false_eq_true, Bool.true_eq_false, reduceCtorEq, false_and, exists_false, and_self, forall_const, false_implies, true_implies, if_true, if_false, Int.reduceLE, Int.reduceLT, Int.reduceNeg, Nat.reduceLeDiff, Nat.reduceAdd, Nat.reduceSub, String.reduceEq, String.reduceBEq, String.reduceBNe, wE_mkFX, List.lookup_cons_self, beq_self_eq_true, Option.map_some, Option.map_none, h1, h2, mt_at]
  refine at_ok h hL q1 fun w i0 i1 hw => ?_
  try simp (config := { dsimp := false }) only [o_bl, o_slv, o_sll, o_op, o_if, o_d2, f_eq, f_ne, o_tup, o_len, o_bls, o_int, o_at, o_app, o_pop0, o_ins, o_cat, f_cnt, o_ty, o_isX, o_xf, o_cX, o_ran, o_sm, o_catchT, o_catchF, wE_oIf, gDivC, gModC, Option.isNone_none, Option.isNone_some, Option.bind_some, Bool.and_true, Bool.true_and, Bool.and_eq_true, decide_eq_true_eq, decide_eq_false_iff_not, v_catT, ln_sc, wE_ok, wE_exc, wE_bad, wE_bind, wS_nx, wS_rt, wS_bk, wS_ct, wS_exc, wS_bad, wS_bSeq, w_bNil, w_sBrk, w_sCnt, w_sIf, w_sRet, w_sRetN, w_sSet, w_sSetL, w_sExp, w_eBin, w_lBin, w_eUn, w_lUn, w_tOf, w_tAnd2, w_tOr2, w_tNot1, w_eAnd, w_eOr, w_eNot, w_eIf, w_eC, w_eTup, w_lLst, w_aNil, w_aCons, w_eIm, w_eAl, w_eCall, w_eFld, w_eM1, w_eM0, w_eM2, w_eMeth, w_ePrp, w_eNew, w_sFldW, w_sDel, w_sRaise1, v_add, v_addS, v_sub, v_mul, v_div, v_mod, v_lt, v_le, v_gt, v_ge, v_isN, v_notN, v_neg, v_int, v_intB, v_abs, v_max2, v_min2, v_eq, v_ne, v_tup, v_seqL, v_bls, v_ints, v_app, v_popAt, v_pop, v_ins, v_cat, v_cnt, w_eIsT, w_eVar, w_eIsX, w_eXf, w_eCallX, w_iRan1, w_iSeq, w_iOwn, w_lComp, w_sFor, w_for0, w_for1, w_gN, w_gSet, w_sTry, w_catch0, w_catch, w_aftX, w_sAsg, w_lCut, w_oNone, w_oSome, w_tYes, dat_cs, dat_non, dat_bl, dat_int, eqv_int, eqv_bool, eqv_cs, eqv_str, eqv_l00, eqv_l10, eqv_t00, eqv_t10, wE_mkFF, r_lstR, r_lstM, r_seqW, r_lstW, r_isL, r_insAt, r_tyW, r_srcW, r_dat, s_im, s_tup, s_lr, s_sc, l_im, l_lr, l_sc, m_im, m_lr, i_im, i_lr, i_sc, c_im, c_tup, c_sc, t_tup, t_im, t_int, t_bl, t_str, t_non, ln_ref, ln_tup, ln_im, ln_lr, ix_ref, ix_tup', ix_im, ix_lr, ix_sc, isN_ref, isN_non, isN_tup, isN_int, isN_bl, isN_str, isN_im, List.map_cons, List.map_nil, List.cons_append, List.nil_append, List.append_nil, List.getElem?_cons_zero, List.getElem?_cons_succ, List.set_cons_zero, List.set_cons_succ, List.replicate_succ, List.replicate_zero, List.length_cons, List.length_nil, List.lookup, il_int, il_bl, il_str, il_non, il_tup, il_im, il_sc, il_ref, il_cl, il_lr, ixN_zero, it_NoneType_bool, it_NoneType_int, it_NoneType_str, it_NoneType_tuple, it_NoneType_list, it_NoneType_dict, it_bool_bool, it_bool_int, it_bool_str, it_bool_tuple, it_bool_list, it_bool_dict, it_int_bool, it_int_int, it_int_str, it_int_tuple, it_int_list, it_int_dict, it_str_bool, it_str_int, it_str_str, it_str_tuple, it_str_list, it_str_dict, it_tuple_bool, it_tuple_int, it_tuple_str, it_tuple_tuple, it_tuple_list, it_tuple_dict, it_list_bool, it_list_int, it_list_str, it_list_tuple, it_list_list, it_list_dict, it_dict_bool, it_dict_int, it_dict_str, it_dict_tuple, it_dict_list, it_dict_dict, eq_self, Bool.not_true, Bool.not_false, decide_true, decide_false, true_and, and_true, Option.some.injEq, exists_eq_left, exists_eq_left', exists_eq_right, W.bl.injEq, W.int.injEq, Bool.false_eq_true, Bool.true_eq_false, reduceCtorEq, false_and, exists_false, and_self, forall_const, false_implies, true_implies, if_true, if_false, Int.reduceLE, Int.reduceLT, Int.reduceNeg, Nat.reduceLeDiff, Nat.reduceAdd, Nat.reduceSub, String.reduceEq, String.reduceBEq, String.reduceBNe, wE_mkFX, List.lookup_cons_self, beq_self_eq_true, Option.map_some, Option.map_none, h1, h2, fld__letters, ixN_of i0 i1]
  have hm : w ∈ L := List.mem_of_getElem? hw
  have e1 : -1000000 ≤ i := by omega
  have e2 : i ≤ 1000000 := by omega
  try simp (config := { dsimp := false }) only [o_bl, o_slv, o_sll, o_op, o_if, o_d2, f_eq, f_ne, o_tup, o_len, o_bls, o_int, o_at, o_app, o_pop0, o_ins, o_cat, f_cnt, o_ty, o_isX, o_xf, o_cX, o_ran, o_sm, o_catchT, o_catchF, wE_oIf, gDivC, gModC, Option.isNone_none, Option.isNone_some, Option.bind_some, Bool.and_true, Bool.true_and, Bool.and_eq_true, decide_eq_true_eq, decide_eq_false_iff_not, v_catT, ln_sc, wE_ok, wE_exc, wE_bad, wE_bind, wS_nx, wS_rt, wS_bk, wS_ct, wS_exc, wS_bad, wS_bSeq, w_bNil, w_sBrk, w_sCnt, w_sIf, w_sRet, w_sRetN, w_sSet, w_sSetL, w_sExp, w_eBin, w_lBin, w_eUn, w_lUn, w_tOf, w_tAnd2, w_tOr2, w_tNot1, w_eAnd, w_eOr, w_eNot, w_eIf, w_eC, w_eTup, w_lLst, w_aNil, w_aCons, w_eIm, w_eAl, w_eCall, w_eFld, w_eM1, w_eM0, w_eM2, w_eMeth, w_ePrp, w_eNew, w_sFldW, w_sDel, w_sRaise1, v_add, v_addS, v_sub, v_mul, v_div, v_mod, v_lt, v_le, v_gt, v_ge, v_isN, v_notN, v_neg, v_int, v_intB, v_abs, v_max2, v_min2, v_eq, v_ne, v_tup, v_seqL, v_bls, v_ints, v_app, v_popAt, v_pop, v_ins, v_cat, v_cnt, w_eIsT, w_eVar, w_eIsX, w_eXf, w_eCallX, w_iRan1, w_iSeq, w_iOwn, w_lComp, w_sFor, w_for0, w_for1, w_gN, w_gSet, w_sTry, w_catch0, w_catch, w_aftX, w_sAsg, w_lCut, w_oNone, w_oSome, w_tYes, dat_cs, dat_non, dat_bl, dat_int, eqv_int, eqv_bool, eqv_cs, eqv_str, eqv_l00, eqv_l10, eqv_t00, eqv_t10, wE_mkFF, r_lstR, r_lstM, r_seqW, r_lstW, r_isL, r_insAt, r_tyW, r_srcW, r_dat, s_im, s_tup, s_lr, s_sc, l_im, l_lr, l_sc, m_im, m_lr, i_im, i_lr, i_sc, c_im, c_tup, c_sc, t_tup, t_im, t_int, t_bl, t_str, t_non, ln_ref, ln_tup, ln_im, ln_lr, ix_ref, ix_tup', ix_im, ix_lr, ix_sc, isN_ref, isN_non, isN_tup, isN_int, isN_bl, isN_str, isN_im, List.map_cons, List.map_nil, List.cons_append, List.nil_append, List.append_nil, List.getElem?_cons_zero, List.getElem?_cons_succ, List.set_cons_zero, List.set_cons_succ, List.replicate_succ, List.replicate_zero, List.length_cons, List.length_nil, List.lookup, il_int, il_bl, il_str, il_non, il_tup, il_im, il_sc, il_ref, il_cl, il_lr, ixN_zero, it_NoneType_bool, it_NoneType_int, it_NoneType_str, it_NoneType_tuple, it_NoneType_list, it_NoneType_dict, it_bool_bool, it_bool_int, it_bool_str, it_bool_tuple, it_bool_list, it_bool_dict, it_int_bool, it_int_int, it_int_str, it_int_tuple, it_int_list, it_int_dict, it_str_bool, it_str_int, it_str_str, it_str_tuple, it_str_list, it_str_dict, it_tuple_bool, it_tuple_int, it_tuple_str, it_tuple_tuple, it_tuple_list, it_tuple_dict, it_list_bool, it_list_int, it_list_str, it_list_tuple, it_list_list, it_list_dict, it_dict_bool, it_dict_int, it_dict_str, it_dict_tuple, it_dict_list, it_dict_dict, eq_self, Bool.not_true, Bool.not_false, decide_true, decide_false, true_and, and_true, Option.some.injEq, exists_eq_left, exists_eq_left', exists_eq_right, W.bl.injEq, W.int.injEq, Bool.false_eq_true, Bool.true_eq_false, reduceCtorEq, false_and, exists_false, and_self, forall_const, false_implies, true_implies, if_true, if_false, Int.reduceLE, Int.reduceLT, Int.reduceNeg, Nat.reduceLeDiff, Nat.reduceAdd, Nat.reduceSub, String.reduceEq, String.reduceBEq, String.reduceBNe, wE_mkFX, List.lookup_cons_self, beq_self_eq_true, Option.map_some, Option.map_none, oDel, ixN_of i0 i1, e1, e2]
  exact ⟨hL w hm, hL w hm, q2 w i0 i1 hw⟩
end Kheldbestk65nets

end

section
set_option Elab.async false
set_option linter.all false
set_option maxRecDepth 100000
set_option maxHeartbeats 1000000
namespace Kheldbestk65nets
open PySem L2 Hb

theorem classes_ok {st : Store} {fs : List (String × W)} {Q : W → Store → Prop} (q : Q (.int 1) st) : wE (f__law_classes 12 fs [] st) Q (fun _ _ _ => False) := by
  unfold f__law_classes
  simp (config := { maxSteps := 10000000 }) only [o_bl, o_slv, o_sll, o_op, o_if, o_d2, f_eq, f_ne, o_tup, o_len, o_bls, o_int, o_at, o_app, o_pop0, o_ins, o_cat, f_cnt, o_ty, o_isX, o_xf, o_cX, o_ran, o_sm, o_catchT, o_catchF, wE_oIf, gDivC, gModC, Option.isNone_none, Option.isNone_some, Option.bind_some, Bool.and_true, Bool.true_and, Bool.and_eq_true, decide_eq_true_eq, decide_eq_false_iff_not, v_catT, ln_sc, wE_ok, wE_exc, wE_bad, wE_bind, wS_nx, wS_rt, wS_bk, wS_ct, wS_exc, wS_bad, wS_bSeq, w_bNil, w_sBrk, w_sCnt, w_sIf, w_sRet, w_sRetN, w_sSet, w_sSetL, w_sExp, w_eBin, w_lBin, w_eUn, w_lUn, w_tOf, w_tAnd2, w_tOr2, w_tNot1, w_eAnd, w_eOr, w_eNot, w_eIf, w_eC, w_eTup, w_lLst, w_aNil, w_aCons, w_eIm, w_eAl, w_eCall, w_eFld, w_eM1, w_eM0, w_eM2, w_eMeth, w_ePrp, w_eNew, w_sFldW, w_sDel, w_sRaise1, v_add, v_addS, v_sub, v_mul, v_div, v_mod, v_lt, v_le, v_gt, v_ge, v_isN, v_notN, v_neg, v_int, v_intB, v_abs, v_max2, v_min2, v_eq, v_ne, v_tup, v_seqL, v_bls, v_ints, v_app, v_popAt, v_pop, v_ins, v_cat, v_cnt, w_eIsT, w_eVar, w_eIsX, w_eXf, w_eCallX, w_iRan1, w_iSeq, w_iOwn, w_lComp, w_sFor, w_for0, w_for1, w_gN, w_gSet, w_sTry, w_catch0, w_catch, w_aftX, w_sAsg, w_lCut, w_oNone, w_oSome, w_tYes, dat_cs, dat_non, dat_bl, dat_int, eqv_int, eqv_bool, eqv_cs, eqv_str, eqv_l00, eqv_l10, eqv_t00, eqv_t10, wE_mkFF, r_lstR, r_lstM, r_seqW, r_lstW, r_isL, r_insAt, r_tyW, r_srcW, r_dat, s_im, s_tup, s_lr, s_sc, l_im, l_lr, l_sc, m_im, m_lr, i_im, i_lr, i_sc, c_im, c_tup, c_sc, t_tup, t_im, t_int, t_bl, t_str, t_non, ln_ref, ln_tup, ln_im, ln_lr, ix_ref, ix_tup', ix_im, ix_lr, ix_sc, isN_ref, isN_non, isN_tup, isN_int, isN_bl, isN_str, isN_im, List.map_cons, List.map_nil, List.cons_append, List.nil_append, List.append_nil, List.getElem?_cons_zero, List.getElem?_cons_succ, List.set_cons_zero, List.set_cons_succ, List.replicate_succ, List.replicate_zero, List.length_cons, List.length_nil, List.lookup, il_int, il_bl, il_str, il_non, il_tup, il_im, il_sc, il_ref, il_cl, il_lr, ixN_zero, it_NoneType_bool, it_NoneType_int, it_NoneType_str, it_NoneType_tuple, it_NoneType_list, it_NoneType_dict, it_bool_bool, it_bool_int, it_bool_str, it_bool_tuple, it_bool_list, it_bool_dict, it_int_bool, it_int_int, it_int_str, it_int_tuple, it_int_list, it_int_dict, it_str_bool, it_str_int, it_str_str, it_str_tuple, it_str_list, it_str_dict, it_tuple_bool, it_tuple_int, it_tuple_str, it_tuple_tuple, it_tuple_list, it_tuple_dict, it_list_bool, it_list_int, it_list_str, it_list_tuple, it_list_list, it_list_dict, it_dict_bool, it_dict_int, it_dict_str, it_dict_tuple, it_dict_list, it_dict_dict, eq_self, Bool.not_true, Bool.not_false, decide_true, decide_false, true_and, and_true, Option.some.injEq, exists_eq_left, exists_eq_left', exists_eq_right, W.bl.injEq, W.int.injEq, Bool.false_eq_true, Bool.true_eq_false, reduceCtorEq, false_and, exists_false, and_self, forall_const, false_implies, true_implies, if_true, if_false, Int.reduceLE, Int.reduceLT, Int.reduceNeg, Nat.reduceLeDiff, Nat.reduceAdd, Nat.reduceSub, String.reduceEq, String.reduceBEq, String.reduceBNe, wE_mkFX, List.lookup_cons_self, beq_self_eq_true, Option.map_some, Option.map_none, xt_OutOfRange, xt_Unread, xt_Unfit, xt_NotAccepted, xt_BadStart, xt_BadSlips, xt_TooHeavy, xt_NotBest, xt_NotOneChange, xt_BadWord, xt_Busy, xt_NoLetter, xt_Down, xt_Up, xt_NotSynced, xt_BadEvent, xt_NotAtRest, xt_Warm, xt_NothingToUndo, xt_NothingToRedo]
  have hd : dat st (.im [.bl false, .bl false, .bl false, .bl false, .bl false, .bl false, .bl false, .bl false, .bl false, .bl false, .bl false, .bl true, .bl false, .bl false, .bl false, .bl false, .bl false, .bl false, .bl false, .bl false])
      = some (.list [.bool false, .bool false, .bool false, .bool false, .bool false, .bool false, .bool false, .bool false, .bool false, .bool false, .bool false, .bool true, .bool false, .bool false, .bool false, .bool false, .bool false, .bool false, .bool false, .bool false]) := by
    simp [dat_im, datWs_cons, datWs_nil, datW]
  try simp (config := { dsimp := false }) only [o_bl, o_slv, o_sll, o_op, o_if, o_d2, f_eq, f_ne, o_tup, o_len, o_bls, o_int, o_at, o_app, o_pop0, o_ins, o_cat, f_cnt, o_ty, o_isX, o_xf, o_cX, o_ran, o_sm, o_catchT, o_catchF, wE_oIf, gDivC, gModC, Option.isNone_none, Option.isNone_some, Option.bind_some, Bool.and_true, Bool.true_and, Bool.and_eq_true, decide_eq_true_eq, decide_eq_false_iff_not, v_catT, ln_sc, wE_ok, wE_exc, wE_bad, wE_bind, wS_nx, wS_rt, wS_bk, wS_ct, wS_exc, wS_bad, wS_bSeq, w_bNil, w_sBrk, w_sCnt, w_sIf, w_sRet, w_sRetN, w_sSet, w_sSetL, w_sExp, w_eBin, w_lBin, w_eUn, w_lUn, w_tOf, w_tAnd2, w_tOr2, w_tNot1, w_eAnd, w_eOr, w_eNot, w_eIf, w_eC, w_eTup, w_lLst, w_aNil, w_aCons, w_eIm, w_eAl, w_eCall, w_eFld, w_eM1, w_eM0, w_eM2, w_eMeth, w_ePrp, w_eNew, w_sFldW, w_sDel, w_sRaise1, v_add, v_addS, v_sub, v_mul, v_div, v_mod, v_lt, v_le, v_gt, v_ge, v_isN, v_notN, v_neg, v_int, v_intB, v_abs, v_max2, v_min2, v_eq, v_ne, v_tup, v_seqL, v_bls, v_ints, v_app, v_popAt, v_pop, v_ins, v_cat, v_cnt, w_eIsT, w_eVar, w_eIsX, w_eXf, w_eCallX, w_iRan1, w_iSeq, w_iOwn, w_lComp, w_sFor, w_for0, w_for1, w_gN, w_gSet, w_sTry, w_catch0, w_catch, w_aftX, w_sAsg, w_lCut, w_oNone, w_oSome, w_tYes, dat_cs, dat_non, dat_bl, dat_int, eqv_int, eqv_bool, eqv_cs, eqv_str, eqv_l00, eqv_l10, eqv_t00, eqv_t10, wE_mkFF, r_lstR, r_lstM, r_seqW, r_lstW, r_isL, r_insAt, r_tyW, r_srcW, r_dat, s_im, s_tup, s_lr, s_sc, l_im, l_lr, l_sc, m_im, m_lr, i_im, i_lr, i_sc, c_im, c_tup, c_sc, t_tup, t_im, t_int, t_bl, t_str, t_non, ln_ref, ln_tup, ln_im, ln_lr, ix_ref, ix_tup', ix_im, ix_lr, ix_sc, isN_ref, isN_non, isN_tup, isN_int, isN_bl, isN_str, isN_im, List.map_cons, List.map_nil, List.cons_append, List.nil_append, List.append_nil, List.getElem?_cons_zero, List.getElem?_cons_succ, List.set_cons_zero, List.set_cons_succ, List.replicate_succ, List.replicate_zero, List.length_cons, List.length_nil, List.lookup, il_int, il_bl, il_str, il_non, il_tup, il_im, il_sc, il_ref, il_cl, il_lr, ixN_zero, it_NoneType_bool, it_NoneType_int, it_NoneType_str, it_NoneType_tuple, it_NoneType_list, it_NoneType_dict, it_bool_bool, it_bool_int, it_bool_str, it_bool_tuple, it_bool_list, it_bool_dict, it_int_bool, it_int_int, it_int_str, it_int_tuple, it_int_list, it_int_dict, it_str_bool, it_str_int, it_str_str, it_str_tuple, it_str_list, it_str_dict, it_tuple_bool, it_tuple_int, it_tuple_str, it_tuple_tuple, it_tuple_list, it_tuple_dict, it_list_bool, it_list_int, it_list_str, it_list_tuple, it_list_list, it_list_dict, it_dict_bool, it_dict_int, it_dict_str, it_dict_tuple, it_dict_list, it_dict_dict, eq_self, Bool.not_true, Bool.not_false, decide_true, decide_false, true_and, and_true, Option.some.injEq, exists_eq_left, exists_eq_left', exists_eq_right, W.bl.injEq, W.int.injEq, Bool.false_eq_true, Bool.true_eq_false, reduceCtorEq, false_and, exists_false, and_self, forall_const, false_implies, true_implies, if_true, if_false, Int.reduceLE, Int.reduceLT, Int.reduceNeg, Nat.reduceLeDiff, Nat.reduceAdd, Nat.reduceSub, String.reduceEq, String.reduceBEq, String.reduceBNe, wE_mkFX, List.lookup_cons_self, beq_self_eq_true, Option.map_some, Option.map_none, hd, List.countP_cons, List.countP_nil]
  exact q
theorem refusal_ok {st : Store} {fs : List (String × W)} {t : W} {Q : W → Store → Prop} (hl : isLr t = false) (q : Q t st) : wE (f__law_refusal 12 fs [t] st) Q (fun _ _ _ => False) := by
  unfold f__law_refusal
  try simp (config := { dsimp := false }) only [o_bl, o_slv, o_sll, o_op, o_if, o_d2, f_eq, f_ne, o_tup, o_len, o_bls, o_int, o_at, o_app, o_pop0, o_ins, o_cat, f_cnt, o_ty, o_isX, o_xf, o_cX, o_ran, o_sm, o_catchT, o_catchF, wE_oIf, gDivC, gModC, Option.isNone_none, Option.isNone_some, Option.bind_some, Bool.and_true, Bool.true_and, Bool.and_eq_true, decide_eq_true_eq, decide_eq_false_iff_not, v_catT, ln_sc, wE_ok, wE_exc, wE_bad, wE_bind, wS_nx, wS_rt, wS_bk, wS_ct, wS_exc, wS_bad, wS_bSeq, w_bNil, w_sBrk, w_sCnt, w_sIf, w_sRet, w_sRetN, w_sSet, w_sSetL, w_sExp, w_eBin, w_lBin, w_eUn, w_lUn, w_tOf, w_tAnd2, w_tOr2, w_tNot1, w_eAnd, w_eOr, w_eNot, w_eIf, w_eC, w_eTup, w_lLst, w_aNil, w_aCons, w_eIm, w_eAl, w_eCall, w_eFld, w_eM1, w_eM0, w_eM2, w_eMeth, w_ePrp, w_eNew, w_sFldW, w_sDel, w_sRaise1, v_add, v_addS, v_sub, v_mul, v_div, v_mod, v_lt, v_le, v_gt, v_ge, v_isN, v_notN, v_neg, v_int, v_intB, v_abs, v_max2, v_min2, v_eq, v_ne, v_tup, v_seqL, v_bls, v_ints, v_app, v_popAt, v_pop, v_ins, v_cat, v_cnt, w_eIsT, w_eVar, w_eIsX, w_eXf, w_eCallX, w_iRan1, w_iSeq, w_iOwn, w_lComp, w_sFor, w_for0, w_for1, w_gN, w_gSet, w_sTry, w_catch0, w_catch, w_aftX, w_sAsg, w_lCut, w_oNone, w_oSome, w_tYes, dat_cs, dat_non, dat_bl, dat_int, eqv_int, eqv_bool, eqv_cs, eqv_str, eqv_l00, eqv_l10, eqv_t00, eqv_t10, wE_mkFF, r_lstR, r_lstM, r_seqW, r_lstW, r_isL, r_insAt, r_tyW, r_srcW, r_dat, s_im, s_tup, s_lr, s_sc, l_im, l_lr, l_sc, m_im, m_lr, i_im, i_lr, i_sc, c_im, c_tup, c_sc, t_tup, t_im, t_int, t_bl, t_str, t_non, ln_ref, ln_tup, ln_im, ln_lr, ix_ref, ix_tup', ix_im, ix_lr, ix_sc, isN_ref, isN_non, isN_tup, isN_int, isN_bl, isN_str, isN_im, List.map_cons, List.map_nil, List.cons_append, List.nil_append, List.append_nil, List.getElem?_cons_zero, List.getElem?_cons_succ, List.set_cons_zero, List.set_cons_succ, List.replicate_succ, List.replicate_zero, List.length_cons, List.length_nil, List.lookup, il_int, il_bl, il_str, il_non, il_tup, il_im, il_sc, il_ref, il_cl, il_lr, ixN_zero, it_NoneType_bool, it_NoneType_int, it_NoneType_str, it_NoneType_tuple, it_NoneType_list, it_NoneType_dict, it_bool_bool, it_bool_int, it_bool_str, it_bool_tuple, it_bool_list, it_bool_dict, it_int_bool, it_int_int, it_int_str, it_int_tuple, it_int_list, it_int_dict, it_str_bool, it_str_int, it_str_str, it_str_tuple, it_str_list, it_str_dict, it_tuple_bool, it_tuple_int, it_tuple_str, it_tuple_tuple, it_tuple_list, it_tuple_dict, it_list_bool, it_list_int, it_list_str, it_list_tuple, it_list_list, it_list_dict, it_dict_bool, it_dict_int, it_dict_str, it_dict_tuple, it_dict_list, it_dict_dict, eq_self, Bool.not_true, Bool.not_false, decide_true, decide_false, true_and, and_true, Option.some.injEq, exists_eq_left, exists_eq_left', exists_eq_right, W.bl.injEq, W.int.injEq, Bool.false_eq_true, Bool.true_eq_false, reduceCtorEq, false_and, exists_false, and_self, forall_const, false_implies, true_implies, if_true, if_false, Int.reduceLE, Int.reduceLT, Int.reduceNeg, Nat.reduceLeDiff, Nat.reduceAdd, Nat.reduceSub, String.reduceEq, String.reduceBEq, String.reduceBNe, wE_mkFX, List.lookup_cons_self, beq_self_eq_true, Option.map_some, Option.map_none, xt_HeldError, xt_ValueError]
  refine classes_ok ?_
  try simp (config := { dsimp := false }) only [o_bl, o_slv, o_sll, o_op, o_if, o_d2, f_eq, f_ne, o_tup, o_len, o_bls, o_int, o_at, o_app, o_pop0, o_ins, o_cat, f_cnt, o_ty, o_isX, o_xf, o_cX, o_ran, o_sm, o_catchT, o_catchF, wE_oIf, gDivC, gModC, Option.isNone_none, Option.isNone_some, Option.bind_some, Bool.and_true, Bool.true_and, Bool.and_eq_true, decide_eq_true_eq, decide_eq_false_iff_not, v_catT, ln_sc, wE_ok, wE_exc, wE_bad, wE_bind, wS_nx, wS_rt, wS_bk, wS_ct, wS_exc, wS_bad, wS_bSeq, w_bNil, w_sBrk, w_sCnt, w_sIf, w_sRet, w_sRetN, w_sSet, w_sSetL, w_sExp, w_eBin, w_lBin, w_eUn, w_lUn, w_tOf, w_tAnd2, w_tOr2, w_tNot1, w_eAnd, w_eOr, w_eNot, w_eIf, w_eC, w_eTup, w_lLst, w_aNil, w_aCons, w_eIm, w_eAl, w_eCall, w_eFld, w_eM1, w_eM0, w_eM2, w_eMeth, w_ePrp, w_eNew, w_sFldW, w_sDel, w_sRaise1, v_add, v_addS, v_sub, v_mul, v_div, v_mod, v_lt, v_le, v_gt, v_ge, v_isN, v_notN, v_neg, v_int, v_intB, v_abs, v_max2, v_min2, v_eq, v_ne, v_tup, v_seqL, v_bls, v_ints, v_app, v_popAt, v_pop, v_ins, v_cat, v_cnt, w_eIsT, w_eVar, w_eIsX, w_eXf, w_eCallX, w_iRan1, w_iSeq, w_iOwn, w_lComp, w_sFor, w_for0, w_for1, w_gN, w_gSet, w_sTry, w_catch0, w_catch, w_aftX, w_sAsg, w_lCut, w_oNone, w_oSome, w_tYes, dat_cs, dat_non, dat_bl, dat_int, eqv_int, eqv_bool, eqv_cs, eqv_str, eqv_l00, eqv_l10, eqv_t00, eqv_t10, wE_mkFF, r_lstR, r_lstM, r_seqW, r_lstW, r_isL, r_insAt, r_tyW, r_srcW, r_dat, s_im, s_tup, s_lr, s_sc, l_im, l_lr, l_sc, m_im, m_lr, i_im, i_lr, i_sc, c_im, c_tup, c_sc, t_tup, t_im, t_int, t_bl, t_str, t_non, ln_ref, ln_tup, ln_im, ln_lr, ix_ref, ix_tup', ix_im, ix_lr, ix_sc, isN_ref, isN_non, isN_tup, isN_int, isN_bl, isN_str, isN_im, List.map_cons, List.map_nil, List.cons_append, List.nil_append, List.append_nil, List.getElem?_cons_zero, List.getElem?_cons_succ, List.set_cons_zero, List.set_cons_succ, List.replicate_succ, List.replicate_zero, List.length_cons, List.length_nil, List.lookup, il_int, il_bl, il_str, il_non, il_tup, il_im, il_sc, il_ref, il_cl, il_lr, ixN_zero, it_NoneType_bool, it_NoneType_int, it_NoneType_str, it_NoneType_tuple, it_NoneType_list, it_NoneType_dict, it_bool_bool, it_bool_int, it_bool_str, it_bool_tuple, it_bool_list, it_bool_dict, it_int_bool, it_int_int, it_int_str, it_int_tuple, it_int_list, it_int_dict, it_str_bool, it_str_int, it_str_str, it_str_tuple, it_str_list, it_str_dict, it_tuple_bool, it_tuple_int, it_tuple_str, it_tuple_tuple, it_tuple_list, it_tuple_dict, it_list_bool, it_list_int, it_list_str, it_list_tuple, it_list_list, it_list_dict, it_dict_bool, it_dict_int, it_dict_str, it_dict_tuple, it_dict_list, it_dict_dict, eq_self, Bool.not_true, Bool.not_false, decide_true, decide_false, true_and, and_true, Option.some.injEq, exists_eq_left, exists_eq_left', exists_eq_right, W.bl.injEq, W.int.injEq, Bool.false_eq_true, Bool.true_eq_false, reduceCtorEq, false_and, exists_false, and_self, forall_const, false_implies, true_implies, if_true, if_false, Int.reduceLE, Int.reduceLT, Int.reduceNeg, Nat.reduceLeDiff, Nat.reduceAdd, Nat.reduceSub, String.reduceEq, String.reduceBEq, String.reduceBNe, wE_mkFX, List.lookup_cons_self, beq_self_eq_true, Option.map_some, Option.map_none]
  exact ⟨hl, q⟩
/-- what a deed is to tell, and what the list is behind it -/
def deed (k : String) (p : Int) (w : W) (L : List W) : W × List W := if k = "send" then (if 200 ≤ L.length then (.tup [.str (cs "done"), .bl false], L) else (.tup [.str (cs "done"), .bl true], L ++ [w]))
  else if 0 ≤ p ∧ p < L.length then (.tup [.str (cs "done"), L.getD p.toNat .non], if k = "take" then L.eraseIdx p.toNat else L) else (.tup [.str (cs "NoLetter"), .int p], L)
theorem getD_of {L : List W} {i : Nat} {w : W} (h : L[i]? = some w) : L.getD i .non = w := by
  rw [List.getD_eq_getElem?_getD, h]; rfl
theorem done_ok {st : Store} {a b : Nat} {L us : List W} {k : String} {p : Int} {x : W} {Q : W → Store → Prop} {E : EX} (hk : k = "send" ∨ k = "take" ∨ k = "at") (h : IsNet st a b L) (hlen : L.length ≤ 200) (hL : ∀ w ∈ L, isLr w = false) (hx : seqW st x = some us) (hxl : isLr x = false)
    (q : Q (deed k p (.tup us) L).1 (st.set b (.lst (deed k p (.tup us) L).2))) : wE (f__law_done [.ref a, .str (cs k), .int p, x] st) Q E := by
  have hb : st.set b (.lst L) = st := set_self h.2
  have h1 := h.1
  unfold f__law_done
  rcases hk with rfl | rfl | rfl
  · try simp (config := { dsimp := false }) only [o_bl, o_slv, o_sll, o_op, o_if, o_d2, f_eq, f_ne, o_tup, o_len, o_bls, o_int, o_at, o_app, o_pop0, o_ins, o_cat, f_cnt, o_ty, o_isX, o_xf, o_cX, o_ran, o_sm, o_catchT, o_catchF, wE_oIf, gDivC, gModC, Option.isNone_none, Option.isNone_some, Option.bind_some, Bool.and_true, Bool.true_and, Bool.and_eq_true, decide_eq_true_eq, decide_eq_false_iff_not, v_catT, ln_sc, wE_ok, wE_exc, wE_bad, wE_bind, wS_nx, wS_rt, wS_bk, wS_ct, wS_exc, wS_bad, wS_bSeq, w_bNil, w_sBrk, w_sCnt, w_sIf, w_sRet, w_sRetN, w_sSet, w_sSetL, w_sExp, w_eBin, w_lBin, w_eUn, w_lUn, w_tOf, w_tAnd2, w_tOr2, w_tNot1, w_eAnd, w_eOr, w_eNot, w_eIf, w_eC, w_eTup, w_lLst, w_aNil, w_aCons, w_eIm, w_eAl, w_eCall, w_eFld, w_eM1, w_eM0, w_eM2, w_eMeth, w_ePrp, w_eNew, w_sFldW, w_sDel, w_sRaise1, v_add, v_addS, v_sub, v_mul, v_div, v_mod, v_lt, v_le, v_gt, v_ge, v_isN, v_notN, v_neg, v_int, v_intB, v_abs, v_max2, v_min2, v_eq, v_ne, v_tup, v_seqL, v_bls, v_ints, v_app, v_popAt, v_pop, v_ins, v_cat, v_cnt, w_eIsT, w_eVar, w_eIsX, w_eXf, w_eCallX, w_iRan1, w_iSeq, w_iOwn, w_lComp, w_sFor, w_for0, w_for1, w_gN, w_gSet, w_sTry, w_catch0, w_catch, w_aftX, w_sAsg, w_lCut, w_oNone, w_oSome, w_tYes, dat_cs, dat_non, dat_bl, dat_int, eqv_int, eqv_bool, eqv_cs, eqv_str, eqv_l00, eqv_l10, eqv_t00, eqv_t10, wE_mkFF, r_lstR, r_lstM, r_seqW, r_lstW, r_isL, r_insAt, r_tyW, r_srcW, r_dat, s_im, s_tup, s_lr, s_sc, l_im, l_lr, l_sc, m_im, m_lr, i_im, i_lr, i_sc, c_im, c_tup, c_sc, t_tup, t_im, t_int, t_bl, t_str, t_non, ln_ref, ln_tup, ln_im, ln_lr, ix_ref, ix_tup', ix_im, ix_lr, ix_sc, isN_ref, isN_non, isN_tup, isN_int, isN_bl, isN_str, isN_im, List.map_cons, List.map_nil, List.cons_append, List.nil_append, List.append_nil, List.getElem?_cons_zero, List.getElem?_cons_succ, List.set_cons_zero, List.set_cons_succ, List.replicate_succ, List.replicate_zero, List.length_cons, List.length_nil, List.lookup, il_int, il_bl, il_str, il_non, il_tup, il_im, il_sc, il_ref, il_cl, il_lr, ixN_zero, it_NoneType_bool, it_NoneType_int, it_NoneType_str, it_NoneType_tuple, it_NoneType_list, it_NoneType_dict, it_bool_bool, it_bool_int, it_bool_str, it_bool_tuple, it_bool_list, it_bool_dict, it_int_bool, it_int_int, it_int_str, it_int_tuple, it_int_list, it_int_dict, it_str_bool, it_str_int, it_str_str, it_str_tuple, it_str_list, it_str_dict, it_tuple_bool, it_tuple_int, it_tuple_str, it_tuple_tuple, it_tuple_list, it_tuple_dict, it_list_bool, it_list_int, it_list_str, it_list_tuple, it_list_list, it_list_dict, it_dict_bool, it_dict_int, it_dict_str, it_dict_tuple, it_dict_list, it_dict_dict, eq_self, Bool.not_true, Bool.not_false, decide_true, decide_false, true_and, and_true, Option.some.injEq, exists_eq_left, exists_eq_left', exists_eq_right, W.bl.injEq, W.int.injEq, Bool.false_eq_true, Bool.true_eq_false, reduceCtorEq, false_and, exists_false, and_self, forall_const, false_implies, true_implies, if_true, if_false, Int.reduceLE, Int.reduceLT, Int.reduceNeg, Nat.reduceLeDiff, Nat.reduceAdd, Nat.reduceSub, String.reduceEq, String.reduceBEq, String.reduceBNe, wE_mkFX, List.lookup_cons_self, beq_self_eq_true, Option.map_some, Option.map_none, h1, mt_send]
    refine ⟨hxl, send_ok h hx (fun c => ?_) fun c => ?_⟩
    · simp only [deed, if_true, if_pos c, hb] at q
      try simp (config := { dsimp := false }) only [o_bl, o_slv, o_sll, o_op, o_if, o_d2, f_eq, f_ne, o_tup, o_len, o_bls, o_int, o_at, o_app, o_pop0, o_ins, o_cat, f_cnt, o_ty, o_isX, o_xf, o_cX, o_ran, o_sm, o_catchT, o_catchF, wE_oIf, gDivC, gModC, Option.isNone_none, Option.isNone_some, Option.bind_some, Bool.and_true, Bool.true_and, Bool.and_eq_true, decide_eq_true_eq, decide_eq_false_iff_not, v_catT, ln_sc, wE_ok, wE_exc, wE_bad, wE_bind, wS_nx, wS_rt, wS_bk, wS_ct, wS_exc, wS_bad, wS_bSeq, w_bNil, w_sBrk, w_sCnt, w_sIf, w_sRet, w_sRetN, w_sSet, w_sSetL, w_sExp, w_eBin, w_lBin, w_eUn, w_lUn, w_tOf, w_tAnd2, w_tOr2, w_tNot1, w_eAnd, w_eOr, w_eNot, w_eIf, w_eC, w_eTup, w_lLst, w_aNil, w_aCons, w_eIm, w_eAl, w_eCall, w_eFld, w_eM1, w_eM0, w_eM2, w_eMeth, w_ePrp, w_eNew, w_sFldW, w_sDel, w_sRaise1, v_add, v_addS, v_sub, v_mul, v_div, v_mod, v_lt, v_le, v_gt, v_ge, v_isN, v_notN, v_neg, v_int, v_intB, v_abs, v_max2, v_min2, v_eq, v_ne, v_tup, v_seqL, v_bls, v_ints, v_app, v_popAt, v_pop, v_ins, v_cat, v_cnt, w_eIsT, w_eVar, w_eIsX, w_eXf, w_eCallX, w_iRan1, w_iSeq, w_iOwn, w_lComp, w_sFor, w_for0, w_for1, w_gN, w_gSet, w_sTry, w_catch0, w_catch, w_aftX, w_sAsg, w_lCut, w_oNone, w_oSome, w_tYes, dat_cs, dat_non, dat_bl, dat_int, eqv_int, eqv_bool, eqv_cs, eqv_str, eqv_l00, eqv_l10, eqv_t00, eqv_t10, wE_mkFF, r_lstR, r_lstM, r_seqW, r_lstW, r_isL, r_insAt, r_tyW, r_srcW, r_dat, s_im, s_tup, s_lr, s_sc, l_im, l_lr, l_sc, m_im, m_lr, i_im, i_lr, i_sc, c_im, c_tup, c_sc, t_tup, t_im, t_int, t_bl, t_str, t_non, ln_ref, ln_tup, ln_im, ln_lr, ix_ref, ix_tup', ix_im, ix_lr, ix_sc, isN_ref, isN_non, isN_tup, isN_int, isN_bl, isN_str, isN_im, List.map_cons, List.map_nil, List.cons_append, List.nil_append, List.append_nil, List.getElem?_cons_zero, List.getElem?_cons_succ, List.set_cons_zero, List.set_cons_succ, List.replicate_succ, List.replicate_zero, List.length_cons, List.length_nil, List.lookup, il_int, il_bl, il_str, il_non, il_tup, il_im, il_sc, il_ref, il_cl, il_lr, ixN_zero, it_NoneType_bool, it_NoneType_int, it_NoneType_str, it_NoneType_tuple, it_NoneType_list, it_NoneType_dict, it_bool_bool, it_bool_int, it_bool_str, it_bool_tuple, it_bool_list, it_bool_dict, it_int_bool, it_int_int, it_int_str, it_int_tuple, it_int_list, it_int_dict, it_str_bool, it_str_int, it_str_str, it_str_tuple, it_str_list, it_str_dict, it_tuple_bool, it_tuple_int, it_tuple_str, it_tuple_tuple, it_tuple_list, it_tuple_dict, it_list_bool, it_list_int, it_list_str, it_list_tuple, it_list_list, it_list_dict, it_dict_bool, it_dict_int, it_dict_str, it_dict_tuple, it_dict_list, it_dict_dict, eq_self, Bool.not_true, Bool.not_false, decide_true, decide_false, true_and, and_true, Option.some.injEq, exists_eq_left, exists_eq_left', exists_eq_right, W.bl.injEq, W.int.injEq, Bool.false_eq_true, Bool.true_eq_false, reduceCtorEq, false_and, exists_false, and_self, forall_const, false_implies, true_implies, if_true, if_false, Int.reduceLE, Int.reduceLT, Int.reduceNeg, Nat.reduceLeDiff, Nat.reduceAdd, Nat.reduceSub, String.reduceEq, String.reduceBEq, String.reduceBNe, wE_mkFX, List.lookup_cons_self, beq_self_eq_true, Option.map_some, Option.map_none]
      exact q
    · simp only [deed, if_true, if_neg (show ¬ 200 ≤ L.length by omega)] at q
      try simp (config := { dsimp := false }) only [o_bl, o_slv, o_sll, o_op, o_if, o_d2, f_eq, f_ne, o_tup, o_len, o_bls, o_int, o_at, o_app, o_pop0, o_ins, o_cat, f_cnt, o_ty, o_isX, o_xf, o_cX, o_ran, o_sm, o_catchT, o_catchF, wE_oIf, gDivC, gModC, Option.isNone_none, Option.isNone_some, Option.bind_some, Bool.and_true, Bool.true_and, Bool.and_eq_true, decide_eq_true_eq, decide_eq_false_iff_not, v_catT, ln_sc, wE_ok, wE_exc, wE_bad, wE_bind, wS_nx, wS_rt, wS_bk, wS_ct, wS_exc, wS_bad, wS_bSeq, w_bNil, w_sBrk, w_sCnt, w_sIf, w_sRet, w_sRetN, w_sSet, w_sSetL, w_sExp, w_eBin, w_lBin, w_eUn, w_lUn, w_tOf, w_tAnd2, w_tOr2, w_tNot1, w_eAnd, w_eOr, w_eNot, w_eIf, w_eC, w_eTup, w_lLst, w_aNil, w_aCons, w_eIm, w_eAl, w_eCall, w_eFld, w_eM1, w_eM0, w_eM2, w_eMeth, w_ePrp, w_eNew, w_sFldW, w_sDel, w_sRaise1, v_add, v_addS, v_sub, v_mul, v_div, v_mod, v_lt, v_le, v_gt, v_ge, v_isN, v_notN, v_neg, v_int, v_intB, v_abs, v_max2, v_min2, v_eq, v_ne, v_tup, v_seqL, v_bls, v_ints, v_app, v_popAt, v_pop, v_ins, v_cat, v_cnt, w_eIsT, w_eVar, w_eIsX, w_eXf, w_eCallX, w_iRan1, w_iSeq, w_iOwn, w_lComp, w_sFor, w_for0, w_for1, w_gN, w_gSet, w_sTry, w_catch0, w_catch, w_aftX, w_sAsg, w_lCut, w_oNone, w_oSome, w_tYes, dat_cs, dat_non, dat_bl, dat_int, eqv_int, eqv_bool, eqv_cs, eqv_str, eqv_l00, eqv_l10, eqv_t00, eqv_t10, wE_mkFF, r_lstR, r_lstM, r_seqW, r_lstW, r_isL, r_insAt, r_tyW, r_srcW, r_dat, s_im, s_tup, s_lr, s_sc, l_im, l_lr, l_sc, m_im, m_lr, i_im, i_lr, i_sc, c_im, c_tup, c_sc, t_tup, t_im, t_int, t_bl, t_str, t_non, ln_ref, ln_tup, ln_im, ln_lr, ix_ref, ix_tup', ix_im, ix_lr, ix_sc, isN_ref, isN_non, isN_tup, isN_int, isN_bl, isN_str, isN_im, List.map_cons, List.map_nil, List.cons_append, List.nil_append, List.append_nil, List.getElem?_cons_zero, List.getElem?_cons_succ, List.set_cons_zero, List.set_cons_succ, List.replicate_succ, List.replicate_zero, List.length_cons, List.length_nil, List.lookup, il_int, il_bl, il_str, il_non, il_tup, il_im, il_sc, il_ref, il_cl, il_lr, ixN_zero, it_NoneType_bool, it_NoneType_int, it_NoneType_str, it_NoneType_tuple, it_NoneType_list, it_NoneType_dict, it_bool_bool, it_bool_int, it_bool_str, it_bool_tuple, it_bool_list, it_bool_dict, it_int_bool, it_int_int, it_int_str, it_int_tuple, it_int_list, it_int_dict, it_str_bool, it_str_int, it_str_str, it_str_tuple, it_str_list, it_str_dict, it_tuple_bool, it_tuple_int, it_tuple_str, it_tuple_tuple, it_tuple_list, it_tuple_dict, it_list_bool, it_list_int, it_list_str, it_list_tuple, it_list_list, it_list_dict, it_dict_bool, it_dict_int, it_dict_str, it_dict_tuple, it_dict_list, it_dict_dict, eq_self, Bool.not_true, Bool.not_false, decide_true, decide_false, true_and, and_true, Option.some.injEq, exists_eq_left, exists_eq_left', exists_eq_right, W.bl.injEq, W.int.injEq, Bool.false_eq_true, Bool.true_eq_false, reduceCtorEq, false_and, exists_false, and_self, forall_const, false_implies, true_implies, if_true, if_false, Int.reduceLE, Int.reduceLT, Int.reduceNeg, Nat.reduceLeDiff, Nat.reduceAdd, Nat.reduceSub, String.reduceEq, String.reduceBEq, String.reduceBNe, wE_mkFX, List.lookup_cons_self, beq_self_eq_true, Option.map_some, Option.map_none]
      exact q
  · try simp (config := { dsimp := false }) only [o_bl, o_slv, o_sll, o_op, o_if, o_d2, f_eq, f_ne, o_tup, o_len, o_bls, o_int, o_at, o_app, o_pop0, o_ins, o_cat, f_cnt, o_ty, o_isX, o_xf, o_cX, o_ran, o_sm, o_catchT, o_catchF, wE_oIf, gDivC, gModC, Option.isNone_none, Option.isNone_some, Option.bind_some, Bool.and_true, Bool.true_and, Bool.and_eq_true, decide_eq_true_eq, decide_eq_false_iff_not, v_catT, ln_sc, wE_ok, wE_exc, wE_bad, wE_bind, wS_nx, wS_rt, wS_bk, wS_ct, wS_exc, wS_bad, wS_bSeq, w_bNil, w_sBrk, w_sCnt, w_sIf, w_sRet, w_sRetN, w_sSet, w_sSetL, w_sExp, w_eBin, w_lBin, w_eUn, w_lUn, w_tOf, w_tAnd2, w_tOr2, w_tNot1, w_eAnd, w_eOr, w_eNot, w_eIf, w_eC, w_eTup, w_lLst, w_aNil, w_aCons, w_eIm, w_eAl, w_eCall, w_eFld, w_eM1, w_eM0, w_eM2, w_eMeth, w_ePrp, w_eNew, w_sFldW, w_sDel, w_sRaise1, v_add, v_addS, v_sub, v_mul, v_div, v_mod, v_lt, v_le, v_gt, v_ge, v_isN, v_notN, v_neg, v_int, v_intB, v_abs, v_max2, v_min2, v_eq, v_ne, v_tup, v_seqL, v_bls, v_ints, v_app, v_popAt, v_pop, v_ins, v_cat, v_cnt, w_eIsT, w_eVar, w_eIsX, w_eXf, w_eCallX, w_iRan1, w_iSeq, w_iOwn, w_lComp, w_sFor, w_for0, w_for1, w_gN, w_gSet, w_sTry, w_catch0, w_catch, w_aftX, w_sAsg, w_lCut, w_oNone, w_oSome, w_tYes, dat_cs, dat_non, dat_bl, dat_int, eqv_int, eqv_bool, eqv_cs, eqv_str, eqv_l00, eqv_l10, eqv_t00, eqv_t10, wE_mkFF, r_lstR, r_lstM, r_seqW, r_lstW, r_isL, r_insAt, r_tyW, r_srcW, r_dat, s_im, s_tup, s_lr, s_sc, l_im, l_lr, l_sc, m_im, m_lr, i_im, i_lr, i_sc, c_im, c_tup, c_sc, t_tup, t_im, t_int, t_bl, t_str, t_non, ln_ref, ln_tup, ln_im, ln_lr, ix_ref, ix_tup', ix_im, ix_lr, ix_sc, isN_ref, isN_non, isN_tup, isN_int, isN_bl, isN_str, isN_im, List.map_cons, List.map_nil, List.cons_append, List.nil_append, List.append_nil, List.getElem?_cons_zero, List.getElem?_cons_succ, List.set_cons_zero, List.set_cons_succ, List.replicate_succ, List.replicate_zero, List.length_cons, List.length_nil, List.lookup, il_int, il_bl, il_str, il_non, il_tup, il_im, il_sc, il_ref, il_cl, il_lr, ixN_zero, it_NoneType_bool, it_NoneType_int, it_NoneType_str, it_NoneType_tuple, it_NoneType_list, it_NoneType_dict, it_bool_bool, it_bool_int, it_bool_str, it_bool_tuple, it_bool_list, it_bool_dict, it_int_bool, it_int_int, it_int_str, it_int_tuple, it_int_list, it_int_dict, it_str_bool, it_str_int, it_str_str, it_str_tuple, it_str_list, it_str_dict, it_tuple_bool, it_tuple_int, it_tuple_str, it_tuple_tuple, it_tuple_list, it_tuple_dict, it_list_bool, it_list_int, it_list_str, it_list_tuple, it_list_list, it_list_dict, it_dict_bool, it_dict_int, it_dict_str, it_dict_tuple, it_dict_list, it_dict_dict, eq_self, Bool.not_true, Bool.not_false, decide_true, decide_false, true_and, and_true, Option.some.injEq, exists_eq_left, exists_eq_left', exists_eq_right, W.bl.injEq, W.int.injEq, Bool.false_eq_true, Bool.true_eq_false, reduceCtorEq, false_and, exists_false, and_self, forall_const, false_implies, true_implies, if_true, if_false, Int.reduceLE, Int.reduceLT, Int.reduceNeg, Nat.reduceLeDiff, Nat.reduceAdd, Nat.reduceSub, String.reduceEq, String.reduceBEq, String.reduceBNe, wE_mkFX, List.lookup_cons_self, beq_self_eq_true, Option.map_some, Option.map_none, h1, mt_take_out]
    refine take_ok h hlen hL (fun c => ?_) fun w i0 i1 hw => ?_
    · try simp (config := { dsimp := false }) only [o_bl, o_slv, o_sll, o_op, o_if, o_d2, f_eq, f_ne, o_tup, o_len, o_bls, o_int, o_at, o_app, o_pop0, o_ins, o_cat, f_cnt, o_ty, o_isX, o_xf, o_cX, o_ran, o_sm, o_catchT, o_catchF, wE_oIf, gDivC, gModC, Option.isNone_none, Option.isNone_some, Option.bind_some, Bool.and_true, Bool.true_and, Bool.and_eq_true, decide_eq_true_eq, decide_eq_false_iff_not, v_catT, ln_sc, wE_ok, wE_exc, wE_bad, wE_bind, wS_nx, wS_rt, wS_bk, wS_ct, wS_exc, wS_bad, wS_bSeq, w_bNil, w_sBrk, w_sCnt, w_sIf, w_sRet, w_sRetN, w_sSet, w_sSetL, w_sExp, w_eBin, w_lBin, w_eUn, w_lUn, w_tOf, w_tAnd2, w_tOr2, w_tNot1, w_eAnd, w_eOr, w_eNot, w_eIf, w_eC, w_eTup, w_lLst, w_aNil, w_aCons, w_eIm, w_eAl, w_eCall, w_eFld, w_eM1, w_eM0, w_eM2, w_eMeth, w_ePrp, w_eNew, w_sFldW, w_sDel, w_sRaise1, v_add, v_addS, v_sub, v_mul, v_div, v_mod, v_lt, v_le, v_gt, v_ge, v_isN, v_notN, v_neg, v_int, v_intB, v_abs, v_max2, v_min2, v_eq, v_ne, v_tup, v_seqL, v_bls, v_ints, v_app, v_popAt, v_pop, v_ins, v_cat, v_cnt, w_eIsT, w_eVar, w_eIsX, w_eXf, w_eCallX, w_iRan1, w_iSeq, w_iOwn, w_lComp, w_sFor, w_for0, w_for1, w_gN, w_gSet, w_sTry, w_catch0, w_catch, w_aftX, w_sAsg, w_lCut, w_oNone, w_oSome, w_tYes, dat_cs, dat_non, dat_bl, dat_int, eqv_int, eqv_bool, eqv_cs, eqv_str, eqv_l00, eqv_l10, eqv_t00, eqv_t10, wE_mkFF, r_lstR, r_lstM, r_seqW, r_lstW, r_isL, r_insAt, r_tyW, r_srcW, r_dat, s_im, s_tup, s_lr, s_sc, l_im, l_lr, l_sc, m_im, m_lr, i_im, i_lr, i_sc, c_im, c_tup, c_sc, t_tup, t_im, t_int, t_bl, t_str, t_non, ln_ref, ln_tup, ln_im, ln_lr, ix_ref, ix_tup', ix_im, ix_lr, ix_sc, isN_ref, isN_non, isN_tup, isN_int, isN_bl, isN_str, isN_im, List.map_cons, List.map_nil, List.cons_append, List.nil_append, List.append_nil, List.getElem?_cons_zero, List.getElem?_cons_succ, List.set_cons_zero, List.set_cons_succ, List.replicate_succ, List.replicate_zero, List.length_cons, List.length_nil, List.lookup, il_int, il_bl, il_str, il_non, il_tup, il_im, il_sc, il_ref, il_cl, il_lr, ixN_zero, it_NoneType_bool, it_NoneType_int, it_NoneType_str, it_NoneType_tuple, it_NoneType_list, it_NoneType_dict, it_bool_bool, it_bool_int, it_bool_str, it_bool_tuple, it_bool_list, it_bool_dict, it_int_bool, it_int_int, it_int_str, it_int_tuple, it_int_list, it_int_dict, it_str_bool, it_str_int, it_str_str, it_str_tuple, it_str_list, it_str_dict, it_tuple_bool, it_tuple_int, it_tuple_str, it_tuple_tuple, it_tuple_list, it_tuple_dict, it_list_bool, it_list_int, it_list_str, it_list_tuple, it_list_list, it_list_dict, it_dict_bool, it_dict_int, it_dict_str, it_dict_tuple, it_dict_list, it_dict_dict, eq_self, Bool.not_true, Bool.not_false, decide_true, decide_false, true_and, and_true, Option.some.injEq, exists_eq_left, exists_eq_left', exists_eq_right, W.bl.injEq, W.int.injEq, Bool.false_eq_true, Bool.true_eq_false, reduceCtorEq, false_and, exists_false, and_self, forall_const, false_implies, true_implies, if_true, if_false, Int.reduceLE, Int.reduceLT, Int.reduceNeg, Nat.reduceLeDiff, Nat.reduceAdd, Nat.reduceSub, String.reduceEq, String.reduceBEq, String.reduceBNe, wE_mkFX, List.lookup_cons_self, beq_self_eq_true, Option.map_some, Option.map_none, xc_NoLetter, xo_at]
      simp only [deed, String.reduceEq, if_false, if_neg c, hb] at q
      refine refusal_ok rfl ?_
      try simp (config := { dsimp := false }) only [o_bl, o_slv, o_sll, o_op, o_if, o_d2, f_eq, f_ne, o_tup, o_len, o_bls, o_int, o_at, o_app, o_pop0, o_ins, o_cat, f_cnt, o_ty, o_isX, o_xf, o_cX, o_ran, o_sm, o_catchT, o_catchF, wE_oIf, gDivC, gModC, Option.isNone_none, Option.isNone_some, Option.bind_some, Bool.and_true, Bool.true_and, Bool.and_eq_true, decide_eq_true_eq, decide_eq_false_iff_not, v_catT, ln_sc, wE_ok, wE_exc, wE_bad, wE_bind, wS_nx, wS_rt, wS_bk, wS_ct, wS_exc, wS_bad, wS_bSeq, w_bNil, w_sBrk, w_sCnt, w_sIf, w_sRet, w_sRetN, w_sSet, w_sSetL, w_sExp, w_eBin, w_lBin, w_eUn, w_lUn, w_tOf, w_tAnd2, w_tOr2, w_tNot1, w_eAnd, w_eOr, w_eNot, w_eIf, w_eC, w_eTup, w_lLst, w_aNil, w_aCons, w_eIm, w_eAl, w_eCall, w_eFld, w_eM1, w_eM0, w_eM2, w_eMeth, w_ePrp, w_eNew, w_sFldW, w_sDel, w_sRaise1, v_add, v_addS, v_sub, v_mul, v_div, v_mod, v_lt, v_le, v_gt, v_ge, v_isN, v_notN, v_neg, v_int, v_intB, v_abs, v_max2, v_min2, v_eq, v_ne, v_tup, v_seqL, v_bls, v_ints, v_app, v_popAt, v_pop, v_ins, v_cat, v_cnt, w_eIsT, w_eVar, w_eIsX, w_eXf, w_eCallX, w_iRan1, w_iSeq, w_iOwn, w_lComp, w_sFor, w_for0, w_for1, w_gN, w_gSet, w_sTry, w_catch0, w_catch, w_aftX, w_sAsg, w_lCut, w_oNone, w_oSome, w_tYes, dat_cs, dat_non, dat_bl, dat_int, eqv_int, eqv_bool, eqv_cs, eqv_str, eqv_l00, eqv_l10, eqv_t00, eqv_t10, wE_mkFF, r_lstR, r_lstM, r_seqW, r_lstW, r_isL, r_insAt, r_tyW, r_srcW, r_dat, s_im, s_tup, s_lr, s_sc, l_im, l_lr, l_sc, m_im, m_lr, i_im, i_lr, i_sc, c_im, c_tup, c_sc, t_tup, t_im, t_int, t_bl, t_str, t_non, ln_ref, ln_tup, ln_im, ln_lr, ix_ref, ix_tup', ix_im, ix_lr, ix_sc, isN_ref, isN_non, isN_tup, isN_int, isN_bl, isN_str, isN_im, List.map_cons, List.map_nil, List.cons_append, List.nil_append, List.append_nil, List.getElem?_cons_zero, List.getElem?_cons_succ, List.set_cons_zero, List.set_cons_succ, List.replicate_succ, List.replicate_zero, List.length_cons, List.length_nil, List.lookup, il_int, il_bl, il_str, il_non, il_tup, il_im, il_sc, il_ref, il_cl, il_lr, ixN_zero, it_NoneType_bool, it_NoneType_int, it_NoneType_str, it_NoneType_tuple, it_NoneType_list, it_NoneType_dict, it_bool_bool, it_bool_int, it_bool_str, it_bool_tuple, it_bool_list, it_bool_dict, it_int_bool, it_int_int, it_int_str, it_int_tuple, it_int_list, it_int_dict, it_str_bool, it_str_int, it_str_str, it_str_tuple, it_str_list, it_str_dict, it_tuple_bool, it_tuple_int, it_tuple_str, it_tuple_tuple, it_tuple_list, it_tuple_dict, it_list_bool, it_list_int, it_list_str, it_list_tuple, it_list_list, it_list_dict, it_dict_bool, it_dict_int, it_dict_str, it_dict_tuple, it_dict_list, it_dict_dict, eq_self, Bool.not_true, Bool.not_false, decide_true, decide_false, true_and, and_true, Option.some.injEq, exists_eq_left, exists_eq_left', exists_eq_right, W.bl.injEq, W.int.injEq, Bool.false_eq_true, Bool.true_eq_false, reduceCtorEq, false_and, exists_false, and_self, forall_const, false_implies, true_implies, if_true, if_false, Int.reduceLE, Int.reduceLT, Int.reduceNeg, Nat.reduceLeDiff, Nat.reduceAdd, Nat.reduceSub, String.reduceEq, String.reduceBEq, String.reduceBNe, wE_mkFX, List.lookup_cons_self, beq_self_eq_true, Option.map_some, Option.map_none]
      exact q
    · have hm := hL w (List.mem_of_getElem? hw)
      simp only [deed, String.reduceEq, if_false, if_pos (show 0 ≤ p ∧ p < L.length from ⟨i0, i1⟩), getD_of hw, if_true] at q
      try simp (config := { dsimp := false }) only [o_bl, o_slv, o_sll, o_op, o_if, o_d2, f_eq, f_ne, o_tup, o_len, o_bls, o_int, o_at, o_app, o_pop0, o_ins, o_cat, f_cnt, o_ty, o_isX, o_xf, o_cX, o_ran, o_sm, o_catchT, o_catchF, wE_oIf, gDivC, gModC, Option.isNone_none, Option.isNone_some, Option.bind_some, Bool.and_true, Bool.true_and, Bool.and_eq_true, decide_eq_true_eq, decide_eq_false_iff_not, v_catT, ln_sc, wE_ok, wE_exc, wE_bad, wE_bind, wS_nx, wS_rt, wS_bk, wS_ct, wS_exc, wS_bad, wS_bSeq, w_bNil, w_sBrk, w_sCnt, w_sIf, w_sRet, w_sRetN, w_sSet, w_sSetL, w_sExp, w_eBin, w_lBin, w_eUn, w_lUn, w_tOf, w_tAnd2, w_tOr2, w_tNot1, w_eAnd, w_eOr, w_eNot, w_eIf, w_eC, w_eTup, w_lLst, w_aNil, w_aCons, w_eIm, w_eAl, w_eCall, w_eFld, w_eM1, w_eM0, w_eM2, w_eMeth, w_ePrp, w_eNew, w_sFldW, w_sDel, w_sRaise1, v_add, v_addS, v_sub, v_mul, v_div, v_mod, v_lt, v_le, v_gt, v_ge, v_isN, v_notN, v_neg, v_int, v_intB, v_abs, v_max2, v_min2, v_eq, v_ne, v_tup, v_seqL, v_bls, v_ints, v_app, v_popAt, v_pop, v_ins, v_cat, v_cnt, w_eIsT, w_eVar, w_eIsX, w_eXf, w_eCallX, w_iRan1, w_iSeq, w_iOwn, w_lComp, w_sFor, w_for0, w_for1, w_gN, w_gSet, w_sTry, w_catch0, w_catch, w_aftX, w_sAsg, w_lCut, w_oNone, w_oSome, w_tYes, dat_cs, dat_non, dat_bl, dat_int, eqv_int, eqv_bool, eqv_cs, eqv_str, eqv_l00, eqv_l10, eqv_t00, eqv_t10, wE_mkFF, r_lstR, r_lstM, r_seqW, r_lstW, r_isL, r_insAt, r_tyW, r_srcW, r_dat, s_im, s_tup, s_lr, s_sc, l_im, l_lr, l_sc, m_im, m_lr, i_im, i_lr, i_sc, c_im, c_tup, c_sc, t_tup, t_im, t_int, t_bl, t_str, t_non, ln_ref, ln_tup, ln_im, ln_lr, ix_ref, ix_tup', ix_im, ix_lr, ix_sc, isN_ref, isN_non, isN_tup, isN_int, isN_bl, isN_str, isN_im, List.map_cons, List.map_nil, List.cons_append, List.nil_append, List.append_nil, List.getElem?_cons_zero, List.getElem?_cons_succ, List.set_cons_zero, List.set_cons_succ, List.replicate_succ, List.replicate_zero, List.length_cons, List.length_nil, List.lookup, il_int, il_bl, il_str, il_non, il_tup, il_im, il_sc, il_ref, il_cl, il_lr, ixN_zero, it_NoneType_bool, it_NoneType_int, it_NoneType_str, it_NoneType_tuple, it_NoneType_list, it_NoneType_dict, it_bool_bool, it_bool_int, it_bool_str, it_bool_tuple, it_bool_list, it_bool_dict, it_int_bool, it_int_int, it_int_str, it_int_tuple, it_int_list, it_int_dict, it_str_bool, it_str_int, it_str_str, it_str_tuple, it_str_list, it_str_dict, it_tuple_bool, it_tuple_int, it_tuple_str, it_tuple_tuple, it_tuple_list, it_tuple_dict, it_list_bool, it_list_int, it_list_str, it_list_tuple, it_list_list, it_list_dict, it_dict_bool, it_dict_int, it_dict_str, it_dict_tuple, it_dict_list, it_dict_dict, eq_self, Bool.not_true, Bool.not_false, decide_true, decide_false, true_and, and_true, Option.some.injEq, exists_eq_left, exists_eq_left', exists_eq_right, W.bl.injEq, W.int.injEq, Bool.false_eq_true, Bool.true_eq_false, reduceCtorEq, false_and, exists_false, and_self, forall_const, false_implies, true_implies, if_true, if_false, Int.reduceLE, Int.reduceLT, Int.reduceNeg, Nat.reduceLeDiff, Nat.reduceAdd, Nat.reduceSub, String.reduceEq, String.reduceBEq, String.reduceBNe, wE_mkFX, List.lookup_cons_self, beq_self_eq_true, Option.map_some, Option.map_none]
      exact ⟨hm, q⟩
  · try simp (config := { dsimp := false }) only [o_bl, o_slv, o_sll, o_op, o_if, o_d2, f_eq, f_ne, o_tup, o_len, o_bls, o_int, o_at, o_app, o_pop0, o_ins, o_cat, f_cnt, o_ty, o_isX, o_xf, o_cX, o_ran, o_sm, o_catchT, o_catchF, wE_oIf, gDivC, gModC, Option.isNone_none, Option.isNone_some, Option.bind_some, Bool.and_true, Bool.true_and, Bool.and_eq_true, decide_eq_true_eq, decide_eq_false_iff_not, v_catT, ln_sc, wE_ok, wE_exc, wE_bad, wE_bind, wS_nx, wS_rt, wS_bk, wS_ct, wS_exc, wS_bad, wS_bSeq, w_bNil, w_sBrk, w_sCnt, w_sIf, w_sRet, w_sRetN, w_sSet, w_sSetL, w_sExp, w_eBin, w_lBin, w_eUn, w_lUn, w_tOf, w_tAnd2, w_tOr2, w_tNot1, w_eAnd, w_eOr, w_eNot, w_eIf, w_eC, w_eTup, w_lLst, w_aNil, w_aCons, w_eIm, w_eAl, w_eCall, w_eFld, w_eM1, w_eM0, w_eM2, w_eMeth, w_ePrp, w_eNew, w_sFldW, w_sDel, w_sRaise1, v_add, v_addS, v_sub, v_mul, v_div, v_mod, v_lt, v_le, v_gt, v_ge, v_isN, v_notN, v_neg, v_int, v_intB, v_abs, v_max2, v_min2, v_eq, v_ne, v_tup, v_seqL, v_bls, v_ints, v_app, v_popAt, v_pop, v_ins, v_cat, v_cnt, w_eIsT, w_eVar, w_eIsX, w_eXf, w_eCallX, w_iRan1, w_iSeq, w_iOwn, w_lComp, w_sFor, w_for0, w_for1, w_gN, w_gSet, w_sTry, w_catch0, w_catch, w_aftX, w_sAsg, w_lCut, w_oNone, w_oSome, w_tYes, dat_cs, dat_non, dat_bl, dat_int, eqv_int, eqv_bool, eqv_cs, eqv_str, eqv_l00, eqv_l10, eqv_t00, eqv_t10, wE_mkFF, r_lstR, r_lstM, r_seqW, r_lstW, r_isL, r_insAt, r_tyW, r_srcW, r_dat, s_im, s_tup, s_lr, s_sc, l_im, l_lr, l_sc, m_im, m_lr, i_im, i_lr, i_sc, c_im, c_tup, c_sc, t_tup, t_im, t_int, t_bl, t_str, t_non, ln_ref, ln_tup, ln_im, ln_lr, ix_ref, ix_tup', ix_im, ix_lr, ix_sc, isN_ref, isN_non, isN_tup, isN_int, isN_bl, isN_str, isN_im, List.map_cons, List.map_nil, List.cons_append, List.nil_append, List.append_nil, List.getElem?_cons_zero, List.getElem?_cons_succ, List.set_cons_zero, List.set_cons_succ, List.replicate_succ, List.replicate_zero, List.length_cons, List.length_nil, List.lookup, il_int, il_bl, il_str, il_non, il_tup, il_im, il_sc, il_ref, il_cl, il_lr, ixN_zero, it_NoneType_bool, it_NoneType_int, it_NoneType_str, it_NoneType_tuple, it_NoneType_list, it_NoneType_dict, it_bool_bool, it_bool_int, it_bool_str, it_bool_tuple, it_bool_list, it_bool_dict, it_int_bool, it_int_int, it_int_str, it_int_tuple, it_int_list, it_int_dict, it_str_bool, it_str_int, it_str_str, it_str_tuple, it_str_list, it_str_dict, it_tuple_bool, it_tuple_int, it_tuple_str, it_tuple_tuple, it_tuple_list, it_tuple_dict, it_list_bool, it_list_int, it_list_str, it_list_tuple, it_list_list, it_list_dict, it_dict_bool, it_dict_int, it_dict_str, it_dict_tuple, it_dict_list, it_dict_dict, eq_self, Bool.not_true, Bool.not_false, decide_true, decide_false, true_and, and_true, Option.some.injEq, exists_eq_left, exists_eq_left', exists_eq_right, W.bl.injEq, W.int.injEq, Bool.false_eq_true, Bool.true_eq_false, reduceCtorEq, false_and, exists_false, and_self, forall_const, false_implies, true_implies, if_true, if_false, Int.reduceLE, Int.reduceLT, Int.reduceNeg, Nat.reduceLeDiff, Nat.reduceAdd, Nat.reduceSub, String.reduceEq, String.reduceBEq, String.reduceBNe, wE_mkFX, List.lookup_cons_self, beq_self_eq_true, Option.map_some, Option.map_none, h1, mt_at]
    refine at_ok h hL (fun c => ?_) fun w i0 i1 hw => ?_
    · try simp (config := { dsimp := false }) only [o_bl, o_slv, o_sll, o_op, o_if, o_d2, f_eq, f_ne, o_tup, o_len, o_bls, o_int, o_at, o_app, o_pop0, o_ins, o_cat, f_cnt, o_ty, o_isX, o_xf, o_cX, o_ran, o_sm, o_catchT, o_catchF, wE_oIf, gDivC, gModC, Option.isNone_none, Option.isNone_some, Option.bind_some, Bool.and_true, Bool.true_and, Bool.and_eq_true, decide_eq_true_eq, decide_eq_false_iff_not, v_catT, ln_sc, wE_ok, wE_exc, wE_bad, wE_bind, wS_nx, wS_rt, wS_bk, wS_ct, wS_exc, wS_bad, wS_bSeq, w_bNil, w_sBrk, w_sCnt, w_sIf, w_sRet, w_sRetN, w_sSet, w_sSetL, w_sExp, w_eBin, w_lBin, w_eUn, w_lUn, w_tOf, w_tAnd2, w_tOr2, w_tNot1, w_eAnd, w_eOr, w_eNot, w_eIf, w_eC, w_eTup, w_lLst, w_aNil, w_aCons, w_eIm, w_eAl, w_eCall, w_eFld, w_eM1, w_eM0, w_eM2, w_eMeth, w_ePrp, w_eNew, w_sFldW, w_sDel, w_sRaise1, v_add, v_addS, v_sub, v_mul, v_div, v_mod, v_lt, v_le, v_gt, v_ge, v_isN, v_notN, v_neg, v_int, v_intB, v_abs, v_max2, v_min2, v_eq, v_ne, v_tup, v_seqL, v_bls, v_ints, v_app, v_popAt, v_pop, v_ins, v_cat, v_cnt, w_eIsT, w_eVar, w_eIsX, w_eXf, w_eCallX, w_iRan1, w_iSeq, w_iOwn, w_lComp, w_sFor, w_for0, w_for1, w_gN, w_gSet, w_sTry, w_catch0, w_catch, w_aftX, w_sAsg, w_lCut, w_oNone, w_oSome, w_tYes, dat_cs, dat_non, dat_bl, dat_int, eqv_int, eqv_bool, eqv_cs, eqv_str, eqv_l00, eqv_l10, eqv_t00, eqv_t10, wE_mkFF, r_lstR, r_lstM, r_seqW, r_lstW, r_isL, r_insAt, r_tyW, r_srcW, r_dat, s_im, s_tup, s_lr, s_sc, l_im, l_lr, l_sc, m_im, m_lr, i_im, i_lr, i_sc, c_im, c_tup, c_sc, t_tup, t_im, t_int, t_bl, t_str, t_non, ln_ref, ln_tup, ln_im, ln_lr, ix_ref, ix_tup', ix_im, ix_lr, ix_sc, isN_ref, isN_non, isN_tup, isN_int, isN_bl, isN_str, isN_im, List.map_cons, List.map_nil, List.cons_append, List.nil_append, List.append_nil, List.getElem?_cons_zero, List.getElem?_cons_succ, List.set_cons_zero, List.set_cons_succ, List.replicate_succ, List.replicate_zero, List.length_cons, List.length_nil, List.lookup, il_int, il_bl, il_str, il_non, il_tup, il_im, il_sc, il_ref, il_cl, il_lr, ixN_zero, it_NoneType_bool, it_NoneType_int, it_NoneType_str, it_NoneType_tuple, it_NoneType_list, it_NoneType_dict, it_bool_bool, it_bool_int, it_bool_str, it_bool_tuple, it_bool_list, it_bool_dict, it_int_bool, it_int_int, it_int_str, it_int_tuple, it_int_list, it_int_dict, it_str_bool, it_str_int, it_str_str, it_str_tuple, it_str_list, it_str_dict, it_tuple_bool, it_tuple_int, it_tuple_str, it_tuple_tuple, it_tuple_list, it_tuple_dict, it_list_bool, it_list_int, it_list_str, it_list_tuple, it_list_list, it_list_dict, it_dict_bool, it_dict_int, it_dict_str, it_dict_tuple, it_dict_list, it_dict_dict, eq_self, Bool.not_true, Bool.not_false, decide_true, decide_false, true_and, and_true, Option.some.injEq, exists_eq_left, exists_eq_left', exists_eq_right, W.bl.injEq, W.int.injEq, Bool.false_eq_true, Bool.true_eq_false, reduceCtorEq, false_and, exists_false, and_self, forall_const, false_implies, true_implies, if_true, if_false, Int.reduceLE, Int.reduceLT, Int.reduceNeg, Nat.reduceLeDiff, Nat.reduceAdd, Nat.reduceSub, String.reduceEq, String.reduceBEq, String.reduceBNe, wE_mkFX, List.lookup_cons_self, beq_self_eq_true, Option.map_some, Option.map_none, xc_NoLetter, xo_at]
      simp only [deed, String.reduceEq, if_false, if_neg c, hb] at q
      refine refusal_ok rfl ?_
      try simp (config := { dsimp := false }) only [o_bl, o_slv, o_sll, o_op, o_if, o_d2, f_eq, f_ne, o_tup, o_len, o_bls, o_int, o_at, o_app, o_pop0, o_ins, o_cat, f_cnt, o_ty, o_isX, o_xf, o_cX, o_ran, o_sm, o_catchT, o_catchF, wE_oIf, gDivC, gModC, Option.isNone_none, Option.isNone_some, Option.bind_some, Bool.and_true, Bool.true_and, Bool.and_eq_true, decide_eq_true_eq, decide_eq_false_iff_not, v_catT, ln_sc, wE_ok, wE_exc, wE_bad, wE_bind, wS_nx, wS_rt, wS_bk, wS_ct, wS_exc, wS_bad, wS_bSeq, w_bNil, w_sBrk, w_sCnt, w_sIf, w_sRet, w_sRetN, w_sSet, w_sSetL, w_sExp, w_eBin, w_lBin, w_eUn, w_lUn, w_tOf, w_tAnd2, w_tOr2, w_tNot1, w_eAnd, w_eOr, w_eNot, w_eIf, w_eC, w_eTup, w_lLst, w_aNil, w_aCons, w_eIm, w_eAl, w_eCall, w_eFld, w_eM1, w_eM0, w_eM2, w_eMeth, w_ePrp, w_eNew, w_sFldW, w_sDel, w_sRaise1, v_add, v_addS, v_sub, v_mul, v_div, v_mod, v_lt, v_le, v_gt, v_ge, v_isN, v_notN, v_neg, v_int, v_intB, v_abs, v_max2, v_min2, v_eq, v_ne, v_tup, v_seqL, v_bls, v_ints, v_app, v_popAt, v_pop, v_ins, v_cat, v_cnt, w_eIsT, w_eVar, w_eIsX, w_eXf, w_eCallX, w_iRan1, w_iSeq, w_iOwn, w_lComp, w_sFor, w_for0, w_for1, w_gN, w_gSet, w_sTry, w_catch0, w_catch, w_aftX, w_sAsg, w_lCut, w_oNone, w_oSome, w_tYes, dat_cs, dat_non, dat_bl, dat_int, eqv_int, eqv_bool, eqv_cs, eqv_str, eqv_l00, eqv_l10, eqv_t00, eqv_t10, wE_mkFF, r_lstR, r_lstM, r_seqW, r_lstW, r_isL, r_insAt, r_tyW, r_srcW, r_dat, s_im, s_tup, s_lr, s_sc, l_im, l_lr, l_sc, m_im, m_lr, i_im, i_lr, i_sc, c_im, c_tup, c_sc, t_tup, t_im, t_int, t_bl, t_str, t_non, ln_ref, ln_tup, ln_im, ln_lr, ix_ref, ix_tup', ix_im, ix_lr, ix_sc, isN_ref, isN_non, isN_tup, isN_int, isN_bl, isN_str, isN_im, List.map_cons, List.map_nil, List.cons_append, List.nil_append, List.append_nil, List.getElem?_cons_zero, List.getElem?_cons_succ, List.set_cons_zero, List.set_cons_succ, List.replicate_succ, List.replicate_zero, List.length_cons, List.length_nil, List.lookup, il_int, il_bl, il_str, il_non, il_tup, il_im, il_sc, il_ref, il_cl, il_lr, ixN_zero, it_NoneType_bool, it_NoneType_int, it_NoneType_str, it_NoneType_tuple, it_NoneType_list, it_NoneType_dict, it_bool_bool, it_bool_int, it_bool_str, it_bool_tuple, it_bool_list, it_bool_dict, it_int_bool, it_int_int, it_int_str, it_int_tuple, it_int_list, it_int_dict, it_str_bool, it_str_int, it_str_str, it_str_tuple, it_str_list, it_str_dict, it_tuple_bool, it_tuple_int, it_tuple_str, it_tuple_tuple, it_tuple_list, it_tuple_dict, it_list_bool, it_list_int, it_list_str, it_list_tuple, it_list_list, it_list_dict, it_dict_bool, it_dict_int, it_dict_str, it_dict_tuple, it_dict_list, it_dict_dict, eq_self, Bool.not_true, Bool.not_false, decide_true, decide_false, true_and, and_true, Option.some.injEq, exists_eq_left, exists_eq_left', exists_eq_right, W.bl.injEq, W.int.injEq, Bool.false_eq_true, Bool.true_eq_false, reduceCtorEq, false_and, exists_false, and_self, forall_const, false_implies, true_implies, if_true, if_false, Int.reduceLE, Int.reduceLT, Int.reduceNeg, Nat.reduceLeDiff, Nat.reduceAdd, Nat.reduceSub, String.reduceEq, String.reduceBEq, String.reduceBNe, wE_mkFX, List.lookup_cons_self, beq_self_eq_true, Option.map_some, Option.map_none]
      exact q
    · have hm := hL w (List.mem_of_getElem? hw)
      simp only [deed, String.reduceEq, if_false, if_pos (show 0 ≤ p ∧ p < L.length from ⟨i0, i1⟩), getD_of hw, hb] at q
      try simp (config := { dsimp := false }) only [o_bl, o_slv, o_sll, o_op, o_if, o_d2, f_eq, f_ne, o_tup, o_len, o_bls, o_int, o_at, o_app, o_pop0, o_ins, o_cat, f_cnt, o_ty, o_isX, o_xf, o_cX, o_ran, o_sm, o_catchT, o_catchF, wE_oIf, gDivC, gModC, Option.isNone_none, Option.isNone_some, Option.bind_some, Bool.and_true, Bool.true_and, Bool.and_eq_true, decide_eq_true_eq, decide_eq_false_iff_not, v_catT, ln_sc, wE_ok, wE_exc, wE_bad, wE_bind, wS_nx, wS_rt, wS_bk, wS_ct, wS_exc, wS_bad, wS_bSeq, w_bNil, w_sBrk, w_sCnt, w_sIf, w_sRet, w_sRetN, w_sSet, w_sSetL, w_sExp, w_eBin, w_lBin, w_eUn, w_lUn, w_tOf, w_tAnd2, w_tOr2, w_tNot1, w_eAnd, w_eOr, w_eNot, w_eIf, w_eC, w_eTup, w_lLst, w_aNil, w_aCons, w_eIm, w_eAl, w_eCall, w_eFld, w_eM1, w_eM0, w_eM2, w_eMeth, w_ePrp, w_eNew, w_sFldW, w_sDel, w_sRaise1, v_add, v_addS, v_sub, v_mul, v_div, v_mod, v_lt, v_le, v_gt, v_ge, v_isN, v_notN, v_neg, v_int, v_intB, v_abs, v_max2, v_min2, v_eq, v_ne, v_tup, v_seqL, v_bls, v_ints, v_app, v_popAt, v_pop, v_ins, v_cat, v_cnt, w_eIsT, w_eVar, w_eIsX, w_eXf, w_eCallX, w_iRan1, w_iSeq, w_iOwn, w_lComp, w_sFor, w_for0, w_for1, w_gN, w_gSet, w_sTry, w_catch0, w_catch, w_aftX, w_sAsg, w_lCut, w_oNone, w_oSome, w_tYes, dat_cs, dat_non, dat_bl, dat_int, eqv_int, eqv_bool, eqv_cs, eqv_str, eqv_l00, eqv_l10, eqv_t00, eqv_t10, wE_mkFF, r_lstR, r_lstM, r_seqW, r_lstW, r_isL, r_insAt, r_tyW, r_srcW, r_dat, s_im, s_tup, s_lr, s_sc, l_im, l_lr, l_sc, m_im, m_lr, i_im, i_lr, i_sc, c_im, c_tup, c_sc, t_tup, t_im, t_int, t_bl, t_str, t_non, ln_ref, ln_tup, ln_im, ln_lr, ix_ref, ix_tup', ix_im, ix_lr, ix_sc, isN_ref, isN_non, isN_tup, isN_int, isN_bl, isN_str, isN_im, List.map_cons, List.map_nil, List.cons_append, List.nil_append, List.append_nil, List.getElem?_cons_zero, List.getElem?_cons_succ, List.set_cons_zero, List.set_cons_succ, List.replicate_succ, List.replicate_zero, List.length_cons, List.length_nil, List.lookup, il_int, il_bl, il_str, il_non, il_tup, il_im, il_sc, il_ref, il_cl, il_lr, ixN_zero, it_NoneType_bool, it_NoneType_int, it_NoneType_str, it_NoneType_tuple, it_NoneType_list, it_NoneType_dict, it_bool_bool, it_bool_int, it_bool_str, it_bool_tuple, it_bool_list, it_bool_dict, it_int_bool, it_int_int, it_int_str, it_int_tuple, it_int_list, it_int_dict, it_str_bool, it_str_int, it_str_str, it_str_tuple, it_str_list, it_str_dict, it_tuple_bool, it_tuple_int, it_tuple_str, it_tuple_tuple, it_tuple_list, it_tuple_dict, it_list_bool, it_list_int, it_list_str, it_list_tuple, it_list_list, it_list_dict, it_dict_bool, it_dict_int, it_dict_str, it_dict_tuple, it_dict_list, it_dict_dict, eq_self, Bool.not_true, Bool.not_false, decide_true, decide_false, true_and, and_true, Option.some.injEq, exists_eq_left, exists_eq_left', exists_eq_right, W.bl.injEq, W.int.injEq, Bool.false_eq_true, Bool.true_eq_false, reduceCtorEq, false_and, exists_false, and_self, forall_const, false_implies, true_implies, if_true, if_false, Int.reduceLE, Int.reduceLT, Int.reduceNeg, Nat.reduceLeDiff, Nat.reduceAdd, Nat.reduceSub, String.reduceEq, String.reduceBEq, String.reduceBNe, wE_mkFX, List.lookup_cons_self, beq_self_eq_true, Option.map_some, Option.map_none]
      exact ⟨hm, q⟩
theorem due_ok {st : Store} {c : Nat} {L : List W} {k : String} {p : Int} {x : W} {Q : W → Store → Prop} {E : EX} (hk : k = "send" ∨ k = "take" ∨ k = "at") (h : st[c]? = some (.lst L)) (hlen : L.length ≤ 200) (hL : ∀ w ∈ L, isLr w = false) (hx : isLr x = false)
    (q : Q (deed k p x L).1 (st.set c (.lst (deed k p x L).2))) : wE (f__law_due [.ref c, .str (cs k), .int p, x] st) Q E := by
  have hb : st.set c (.lst L) = st := set_self h
  unfold f__law_due
  rcases hk with rfl | rfl | rfl
  · try simp (config := { dsimp := false }) only [o_bl, o_slv, o_sll, o_op, o_if, o_d2, f_eq, f_ne, o_tup, o_len, o_bls, o_int, o_at, o_app, o_pop0, o_ins, o_cat, f_cnt, o_ty, o_isX, o_xf, o_cX, o_ran, o_sm, o_catchT, o_catchF, wE_oIf, gDivC, gModC, Option.isNone_none, Option.isNone_some, Option.bind_some, Bool.and_true, Bool.true_and, Bool.and_eq_true, decide_eq_true_eq, decide_eq_false_iff_not, v_catT, ln_sc, wE_ok, wE_exc, wE_bad, wE_bind, wS_nx, wS_rt, wS_bk, wS_ct, wS_exc, wS_bad, wS_bSeq, w_bNil, w_sBrk, w_sCnt, w_sIf, w_sRet, w_sRetN, w_sSet, w_sSetL, w_sExp, w_eBin, w_lBin, w_eUn, w_lUn, w_tOf, w_tAnd2, w_tOr2, w_tNot1, w_eAnd, w_eOr, w_eNot, w_eIf, w_eC, w_eTup, w_lLst, w_aNil, w_aCons, w_eIm, w_eAl, w_eCall, w_eFld, w_eM1, w_eM0, w_eM2, w_eMeth, w_ePrp, w_eNew, w_sFldW, w_sDel, w_sRaise1, v_add, v_addS, v_sub, v_mul, v_div, v_mod, v_lt, v_le, v_gt, v_ge, v_isN, v_notN, v_neg, v_int, v_intB, v_abs, v_max2, v_min2, v_eq, v_ne, v_tup, v_seqL, v_bls, v_ints, v_app, v_popAt, v_pop, v_ins, v_cat, v_cnt, w_eIsT, w_eVar, w_eIsX, w_eXf, w_eCallX, w_iRan1, w_iSeq, w_iOwn, w_lComp, w_sFor, w_for0, w_for1, w_gN, w_gSet, w_sTry, w_catch0, w_catch, w_aftX, w_sAsg, w_lCut, w_oNone, w_oSome, w_tYes, dat_cs, dat_non, dat_bl, dat_int, eqv_int, eqv_bool, eqv_cs, eqv_str, eqv_l00, eqv_l10, eqv_t00, eqv_t10, wE_mkFF, r_lstR, r_lstM, r_seqW, r_lstW, r_isL, r_insAt, r_tyW, r_srcW, r_dat, s_im, s_tup, s_lr, s_sc, l_im, l_lr, l_sc, m_im, m_lr, i_im, i_lr, i_sc, c_im, c_tup, c_sc, t_tup, t_im, t_int, t_bl, t_str, t_non, ln_ref, ln_tup, ln_im, ln_lr, ix_ref, ix_tup', ix_im, ix_lr, ix_sc, isN_ref, isN_non, isN_tup, isN_int, isN_bl, isN_str, isN_im, List.map_cons, List.map_nil, List.cons_append, List.nil_append, List.append_nil, List.getElem?_cons_zero, List.getElem?_cons_succ, List.set_cons_zero, List.set_cons_succ, List.replicate_succ, List.replicate_zero, List.length_cons, List.length_nil, List.lookup, il_int, il_bl, il_str, il_non, il_tup, il_im, il_sc, il_ref, il_cl, il_lr, ixN_zero, it_NoneType_bool, it_NoneType_int, it_NoneType_str, it_NoneType_tuple, it_NoneType_list, it_NoneType_dict, it_bool_bool, it_bool_int, it_bool_str, it_bool_tuple, it_bool_list, it_bool_dict, it_int_bool, it_int_int, it_int_str, it_int_tuple, it_int_list, it_int_dict, it_str_bool, it_str_int, it_str_str, it_str_tuple, it_str_list, it_str_dict, it_tuple_bool, it_tuple_int, it_tuple_str, it_tuple_tuple, it_tuple_list, it_tuple_dict, it_list_bool, it_list_int, it_list_str, it_list_tuple, it_list_list, it_list_dict, it_dict_bool, it_dict_int, it_dict_str, it_dict_tuple, it_dict_list, it_dict_dict, eq_self, Bool.not_true, Bool.not_false, decide_true, decide_false, true_and, and_true, Option.some.injEq, exists_eq_left, exists_eq_left', exists_eq_right, W.bl.injEq, W.int.injEq, Bool.false_eq_true, Bool.true_eq_false, reduceCtorEq, false_and, exists_false, and_self, forall_const, false_implies, true_implies, if_true, if_false, Int.reduceLE, Int.reduceLT, Int.reduceNeg, Nat.reduceLeDiff, Nat.reduceAdd, Nat.reduceSub, String.reduceEq, String.reduceBEq, String.reduceBNe, wE_mkFX, List.lookup_cons_self, beq_self_eq_true, Option.map_some, Option.map_none, h, hx, decide_eq_true_eq, decide_eq_false_iff_not]
    refine ⟨fun d => ?_, fun d => ⟨by omega, ?_⟩⟩
    · simpa only [deed, if_true, if_pos (show 200 ≤ L.length by omega), hb] using q
    · simpa only [deed, if_true, if_neg (show ¬ 200 ≤ L.length by omega)] using q
  · try simp (config := { dsimp := false }) only [o_bl, o_slv, o_sll, o_op, o_if, o_d2, f_eq, f_ne, o_tup, o_len, o_bls, o_int, o_at, o_app, o_pop0, o_ins, o_cat, f_cnt, o_ty, o_isX, o_xf, o_cX, o_ran, o_sm, o_catchT, o_catchF, wE_oIf, gDivC, gModC, Option.isNone_none, Option.isNone_some, Option.bind_some, Bool.and_true, Bool.true_and, Bool.and_eq_true, decide_eq_true_eq, decide_eq_false_iff_not, v_catT, ln_sc, wE_ok, wE_exc, wE_bad, wE_bind, wS_nx, wS_rt, wS_bk, wS_ct, wS_exc, wS_bad, wS_bSeq, w_bNil, w_sBrk, w_sCnt, w_sIf, w_sRet, w_sRetN, w_sSet, w_sSetL, w_sExp, w_eBin, w_lBin, w_eUn, w_lUn, w_tOf, w_tAnd2, w_tOr2, w_tNot1, w_eAnd, w_eOr, w_eNot, w_eIf, w_eC, w_eTup, w_lLst, w_aNil, w_aCons, w_eIm, w_eAl, w_eCall, w_eFld, w_eM1, w_eM0, w_eM2, w_eMeth, w_ePrp, w_eNew, w_sFldW, w_sDel, w_sRaise1, v_add, v_addS, v_sub, v_mul, v_div, v_mod, v_lt, v_le, v_gt, v_ge, v_isN, v_notN, v_neg, v_int, v_intB, v_abs, v_max2, v_min2, v_eq, v_ne, v_tup, v_seqL, v_bls, v_ints, v_app, v_popAt, v_pop, v_ins, v_cat, v_cnt, w_eIsT, w_eVar, w_eIsX, w_eXf, w_eCallX, w_iRan1, w_iSeq, w_iOwn, w_lComp, w_sFor, w_for0, w_for1, w_gN, w_gSet, w_sTry, w_catch0, w_catch, w_aftX, w_sAsg, w_lCut, w_oNone, w_oSome, w_tYes, dat_cs, dat_non, dat_bl, dat_int, eqv_int, eqv_bool, eqv_cs, eqv_str, eqv_l00, eqv_l10, eqv_t00, eqv_t10, wE_mkFF, r_lstR, r_lstM, r_seqW, r_lstW, r_isL, r_insAt, r_tyW, r_srcW, r_dat, s_im, s_tup, s_lr, s_sc, l_im, l_lr, l_sc, m_im, m_lr, i_im, i_lr, i_sc, c_im, c_tup, c_sc, t_tup, t_im, t_int, t_bl, t_str, t_non, ln_ref, ln_tup, ln_im, ln_lr, ix_ref, ix_tup', ix_im, ix_lr, ix_sc, isN_ref, isN_non, isN_tup, isN_int, isN_bl, isN_str, isN_im, List.map_cons, List.map_nil, List.cons_append, List.nil_append, List.append_nil, List.getElem?_cons_zero, List.getElem?_cons_succ, List.set_cons_zero, List.set_cons_succ, List.replicate_succ, List.replicate_zero, List.length_cons, List.length_nil, List.lookup, il_int, il_bl, il_str, il_non, il_tup, il_im, il_sc, il_ref, il_cl, il_lr, ixN_zero, it_NoneType_bool, it_NoneType_int, it_NoneType_str, it_NoneType_tuple, it_NoneType_list, it_NoneType_dict, it_bool_bool, it_bool_int, it_bool_str, it_bool_tuple, it_bool_list, it_bool_dict, it_int_bool, it_int_int, it_int_str, it_int_tuple, it_int_list, it_int_dict, it_str_bool, it_str_int, it_str_str, it_str_tuple, it_str_list, it_str_dict, it_tuple_bool, it_tuple_int, it_tuple_str, it_tuple_tuple, it_tuple_list, it_tuple_dict, it_list_bool, it_list_int, it_list_str, it_list_tuple, it_list_list, it_list_dict, it_dict_bool, it_dict_int, it_dict_str, it_dict_tuple, it_dict_list, it_dict_dict, eq_self, Bool.not_true, Bool.not_false, decide_true, decide_false, true_and, and_true, Option.some.injEq, exists_eq_left, exists_eq_left', exists_eq_right, W.bl.injEq, W.int.injEq, Bool.false_eq_true, Bool.true_eq_false, reduceCtorEq, false_and, exists_false, and_self, forall_const, false_implies, true_implies, if_true, if_false, Int.reduceLE, Int.reduceLT, Int.reduceNeg, Nat.reduceLeDiff, Nat.reduceAdd, Nat.reduceSub, String.reduceEq, String.reduceBEq, String.reduceBNe, wE_mkFX, List.lookup_cons_self, beq_self_eq_true, Option.map_some, Option.map_none, h, decide_eq_true_eq, decide_eq_false_iff_not]
    refine ⟨fun d => ?_, fun d => ⟨fun e => ?_, fun e => ?_⟩⟩
    · simpa only [deed, String.reduceEq, if_false, if_neg (show ¬ (0 ≤ p ∧ p < L.length) by omega), hb] using q
    · simpa only [deed, String.reduceEq, if_false, if_neg (show ¬ (0 ≤ p ∧ p < L.length) by omega), hb] using q
    · have hi : p.toNat < L.length := by omega
      simp only [deed, String.reduceEq, if_false, if_pos (show 0 ≤ p ∧ p < L.length by omega), getD_of (List.getElem?_eq_getElem hi), if_true] at q
      rw [o_popAt (t := (c, L)) (i := p) (k := p.toNat) (y := L[p.toNat]) (by omega) (by omega) (ixN_of (by omega) (by show p < (L.length : Int); omega)) (List.getElem?_eq_getElem hi)]
      try simp (config := { dsimp := false }) only [o_bl, o_slv, o_sll, o_op, o_if, o_d2, f_eq, f_ne, o_tup, o_len, o_bls, o_int, o_at, o_app, o_pop0, o_ins, o_cat, f_cnt, o_ty, o_isX, o_xf, o_cX, o_ran, o_sm, o_catchT, o_catchF, wE_oIf, gDivC, gModC, Option.isNone_none, Option.isNone_some, Option.bind_some, Bool.and_true, Bool.true_and, Bool.and_eq_true, decide_eq_true_eq, decide_eq_false_iff_not, v_catT, ln_sc, wE_ok, wE_exc, wE_bad, wE_bind, wS_nx, wS_rt, wS_bk, wS_ct, wS_exc, wS_bad, wS_bSeq, w_bNil, w_sBrk, w_sCnt, w_sIf, w_sRet, w_sRetN, w_sSet, w_sSetL, w_sExp, w_eBin, w_lBin, w_eUn, w_lUn, w_tOf, w_tAnd2, w_tOr2, w_tNot1, w_eAnd, w_eOr, w_eNot, w_eIf, w_eC, w_eTup, w_lLst, w_aNil, w_aCons, w_eIm, w_eAl, w_eCall, w_eFld, w_eM1, w_eM0, w_eM2, w_eMeth, w_ePrp, w_eNew, w_sFldW, w_sDel, w_sRaise1, v_add, v_addS, v_sub, v_mul, v_div, v_mod, v_lt, v_le, v_gt, v_ge, v_isN, v_notN, v_neg, v_int, v_intB, v_abs, v_max2, v_min2, v_eq, v_ne, v_tup, v_seqL, v_bls, v_ints, v_app, v_popAt, v_pop, v_ins, v_cat, v_cnt, w_eIsT, w_eVar, w_eIsX, w_eXf, w_eCallX, w_iRan1, w_iSeq, w_iOwn, w_lComp, w_sFor, w_for0, w_for1, w_gN, w_gSet, w_sTry, w_catch0, w_catch, w_aftX, w_sAsg, w_lCut, w_oNone, w_oSome, w_tYes, dat_cs, dat_non, dat_bl, dat_int, eqv_int, eqv_bool, eqv_cs, eqv_str, eqv_l00, eqv_l10, eqv_t00, eqv_t10, wE_mkFF, r_lstR, r_lstM, r_seqW, r_lstW, r_isL, r_insAt, r_tyW, r_srcW, r_dat, s_im, s_tup, s_lr, s_sc, l_im, l_lr, l_sc, m_im, m_lr, i_im, i_lr, i_sc, c_im, c_tup, c_sc, t_tup, t_im, t_int, t_bl, t_str, t_non, ln_ref, ln_tup, ln_im, ln_lr, ix_ref, ix_tup', ix_im, ix_lr, ix_sc, isN_ref, isN_non, isN_tup, isN_int, isN_bl, isN_str, isN_im, List.map_cons, List.map_nil, List.cons_append, List.nil_append, List.append_nil, List.getElem?_cons_zero, List.getElem?_cons_succ, List.set_cons_zero, List.set_cons_succ, List.replicate_succ, List.replicate_zero, List.length_cons, List.length_nil, List.lookup, il_int, il_bl, il_str, il_non, il_tup, il_im, il_sc, il_ref, il_cl, il_lr, ixN_zero, it_NoneType_bool, it_NoneType_int, it_NoneType_str, it_NoneType_tuple, it_NoneType_list, it_NoneType_dict, it_bool_bool, it_bool_int, it_bool_str, it_bool_tuple, it_bool_list, it_bool_dict, it_int_bool, it_int_int, it_int_str, it_int_tuple, it_int_list, it_int_dict, it_str_bool, it_str_int, it_str_str, it_str_tuple, it_str_list, it_str_dict, it_tuple_bool, it_tuple_int, it_tuple_str, it_tuple_tuple, it_tuple_list, it_tuple_dict, it_list_bool, it_list_int, it_list_str, it_list_tuple, it_list_list, it_list_dict, it_dict_bool, it_dict_int, it_dict_str, it_dict_tuple, it_dict_list, it_dict_dict, eq_self, Bool.not_true, Bool.not_false, decide_true, decide_false, true_and, and_true, Option.some.injEq, exists_eq_left, exists_eq_left', exists_eq_right, W.bl.injEq, W.int.injEq, Bool.false_eq_true, Bool.true_eq_false, reduceCtorEq, false_and, exists_false, and_self, forall_const, false_implies, true_implies, if_true, if_false, Int.reduceLE, Int.reduceLT, Int.reduceNeg, Nat.reduceLeDiff, Nat.reduceAdd, Nat.reduceSub, String.reduceEq, String.reduceBEq, String.reduceBNe, wE_mkFX, List.lookup_cons_self, beq_self_eq_true, Option.map_some, Option.map_none]
      exact ⟨hL _ (List.getElem_mem hi), q⟩
  · try simp (config := { dsimp := false }) only [o_bl, o_slv, o_sll, o_op, o_if, o_d2, f_eq, f_ne, o_tup, o_len, o_bls, o_int, o_at, o_app, o_pop0, o_ins, o_cat, f_cnt, o_ty, o_isX, o_xf, o_cX, o_ran, o_sm, o_catchT, o_catchF, wE_oIf, gDivC, gModC, Option.isNone_none, Option.isNone_some, Option.bind_some, Bool.and_true, Bool.true_and, Bool.and_eq_true, decide_eq_true_eq, decide_eq_false_iff_not, v_catT, ln_sc, wE_ok, wE_exc, wE_bad, wE_bind, wS_nx, wS_rt, wS_bk, wS_ct, wS_exc, wS_bad, wS_bSeq, w_bNil, w_sBrk, w_sCnt, w_sIf, w_sRet, w_sRetN, w_sSet, w_sSetL, w_sExp, w_eBin, w_lBin, w_eUn, w_lUn, w_tOf, w_tAnd2, w_tOr2, w_tNot1, w_eAnd, w_eOr, w_eNot, w_eIf, w_eC, w_eTup, w_lLst, w_aNil, w_aCons, w_eIm, w_eAl, w_eCall, w_eFld, w_eM1, w_eM0, w_eM2, w_eMeth, w_ePrp, w_eNew, w_sFldW, w_sDel, w_sRaise1, v_add, v_addS, v_sub, v_mul, v_div, v_mod, v_lt, v_le, v_gt, v_ge, v_isN, v_notN, v_neg, v_int, v_intB, v_abs, v_max2, v_min2, v_eq, v_ne, v_tup, v_seqL, v_bls, v_ints, v_app, v_popAt, v_pop, v_ins, v_cat, v_cnt, w_eIsT, w_eVar, w_eIsX, w_eXf, w_eCallX, w_iRan1, w_iSeq, w_iOwn, w_lComp, w_sFor, w_for0, w_for1, w_gN, w_gSet, w_sTry, w_catch0, w_catch, w_aftX, w_sAsg, w_lCut, w_oNone, w_oSome, w_tYes, dat_cs, dat_non, dat_bl, dat_int, eqv_int, eqv_bool, eqv_cs, eqv_str, eqv_l00, eqv_l10, eqv_t00, eqv_t10, wE_mkFF, r_lstR, r_lstM, r_seqW, r_lstW, r_isL, r_insAt, r_tyW, r_srcW, r_dat, s_im, s_tup, s_lr, s_sc, l_im, l_lr, l_sc, m_im, m_lr, i_im, i_lr, i_sc, c_im, c_tup, c_sc, t_tup, t_im, t_int, t_bl, t_str, t_non, ln_ref, ln_tup, ln_im, ln_lr, ix_ref, ix_tup', ix_im, ix_lr, ix_sc, isN_ref, isN_non, isN_tup, isN_int, isN_bl, isN_str, isN_im, List.map_cons, List.map_nil, List.cons_append, List.nil_append, List.append_nil, List.getElem?_cons_zero, List.getElem?_cons_succ, List.set_cons_zero, List.set_cons_succ, List.replicate_succ, List.replicate_zero, List.length_cons, List.length_nil, List.lookup, il_int, il_bl, il_str, il_non, il_tup, il_im, il_sc, il_ref, il_cl, il_lr, ixN_zero, it_NoneType_bool, it_NoneType_int, it_NoneType_str, it_NoneType_tuple, it_NoneType_list, it_NoneType_dict, it_bool_bool, it_bool_int, it_bool_str, it_bool_tuple, it_bool_list, it_bool_dict, it_int_bool, it_int_int, it_int_str, it_int_tuple, it_int_list, it_int_dict, it_str_bool, it_str_int, it_str_str, it_str_tuple, it_str_list, it_str_dict, it_tuple_bool, it_tuple_int, it_tuple_str, it_tuple_tuple, it_tuple_list, it_tuple_dict, it_list_bool, it_list_int, it_list_str, it_list_tuple, it_list_list, it_list_dict, it_dict_bool, it_dict_int, it_dict_str, it_dict_tuple, it_dict_list, it_dict_dict, eq_self, Bool.not_true, Bool.not_false, decide_true, decide_false, true_and, and_true, Option.some.injEq, exists_eq_left, exists_eq_left', exists_eq_right, W.bl.injEq, W.int.injEq, Bool.false_eq_true, Bool.true_eq_false, reduceCtorEq, false_and, exists_false, and_self, forall_const, false_implies, true_implies, if_true, if_false, Int.reduceLE, Int.reduceLT, Int.reduceNeg, Nat.reduceLeDiff, Nat.reduceAdd, Nat.reduceSub, String.reduceEq, String.reduceBEq, String.reduceBNe, wE_mkFX, List.lookup_cons_self, beq_self_eq_true, Option.map_some, Option.map_none, h, decide_eq_true_eq, decide_eq_false_iff_not]
    refine ⟨fun d => ?_, fun d => ⟨fun e => ?_, fun e => ?_⟩⟩
    · simpa only [deed, String.reduceEq, if_false, if_neg (show ¬ (0 ≤ p ∧ p < L.length) by omega), hb] using q
    · simpa only [deed, String.reduceEq, if_false, if_neg (show ¬ (0 ≤ p ∧ p < L.length) by omega), hb] using q
    · have hi : p.toNat < L.length := by omega
      simp only [deed, String.reduceEq, if_false, if_pos (show 0 ≤ p ∧ p < L.length by omega), getD_of (List.getElem?_eq_getElem hi), hb] at q
      have ha : atW L p = some L[p.toNat] := by
        unfold atW
        rw [ixN_of (by omega) (by omega)]
        simp [hi]
      try simp (config := { dsimp := false }) only [o_bl, o_slv, o_sll, o_op, o_if, o_d2, f_eq, f_ne, o_tup, o_len, o_bls, o_int, o_at, o_app, o_pop0, o_ins, o_cat, f_cnt, o_ty, o_isX, o_xf, o_cX, o_ran, o_sm, o_catchT, o_catchF, wE_oIf, gDivC, gModC, Option.isNone_none, Option.isNone_some, Option.bind_some, Bool.and_true, Bool.true_and, Bool.and_eq_true, decide_eq_true_eq, decide_eq_false_iff_not, v_catT, ln_sc, wE_ok, wE_exc, wE_bad, wE_bind, wS_nx, wS_rt, wS_bk, wS_ct, wS_exc, wS_bad, wS_bSeq, w_bNil, w_sBrk, w_sCnt, w_sIf, w_sRet, w_sRetN, w_sSet, w_sSetL, w_sExp, w_eBin, w_lBin, w_eUn, w_lUn, w_tOf, w_tAnd2, w_tOr2, w_tNot1, w_eAnd, w_eOr, w_eNot, w_eIf, w_eC, w_eTup, w_lLst, w_aNil, w_aCons, w_eIm, w_eAl, w_eCall, w_eFld, w_eM1, w_eM0, w_eM2, w_eMeth, w_ePrp, w_eNew, w_sFldW, w_sDel, w_sRaise1, v_add, v_addS, v_sub, v_mul, v_div, v_mod, v_lt, v_le, v_gt, v_ge, v_isN, v_notN, v_neg, v_int, v_intB, v_abs, v_max2, v_min2, v_eq, v_ne, v_tup, v_seqL, v_bls, v_ints, v_app, v_popAt, v_pop, v_ins, v_cat, v_cnt, w_eIsT, w_eVar, w_eIsX, w_eXf, w_eCallX, w_iRan1, w_iSeq, w_iOwn, w_lComp, w_sFor, w_for0, w_for1, w_gN, w_gSet, w_sTry, w_catch0, w_catch, w_aftX, w_sAsg, w_lCut, w_oNone, w_oSome, w_tYes, dat_cs, dat_non, dat_bl, dat_int, eqv_int, eqv_bool, eqv_cs, eqv_str, eqv_l00, eqv_l10, eqv_t00, eqv_t10, wE_mkFF, r_lstR, r_lstM, r_seqW, r_lstW, r_isL, r_insAt, r_tyW, r_srcW, r_dat, s_im, s_tup, s_lr, s_sc, l_im, l_lr, l_sc, m_im, m_lr, i_im, i_lr, i_sc, c_im, c_tup, c_sc, t_tup, t_im, t_int, t_bl, t_str, t_non, ln_ref, ln_tup, ln_im, ln_lr, ix_ref, ix_tup', ix_im, ix_lr, ix_sc, isN_ref, isN_non, isN_tup, isN_int, isN_bl, isN_str, isN_im, List.map_cons, List.map_nil, List.cons_append, List.nil_append, List.append_nil, List.getElem?_cons_zero, List.getElem?_cons_succ, List.set_cons_zero, List.set_cons_succ, List.replicate_succ, List.replicate_zero, List.length_cons, List.length_nil, List.lookup, il_int, il_bl, il_str, il_non, il_tup, il_im, il_sc, il_ref, il_cl, il_lr, ixN_zero, it_NoneType_bool, it_NoneType_int, it_NoneType_str, it_NoneType_tuple, it_NoneType_list, it_NoneType_dict, it_bool_bool, it_bool_int, it_bool_str, it_bool_tuple, it_bool_list, it_bool_dict, it_int_bool, it_int_int, it_int_str, it_int_tuple, it_int_list, it_int_dict, it_str_bool, it_str_int, it_str_str, it_str_tuple, it_str_list, it_str_dict, it_tuple_bool, it_tuple_int, it_tuple_str, it_tuple_tuple, it_tuple_list, it_tuple_dict, it_list_bool, it_list_int, it_list_str, it_list_tuple, it_list_list, it_list_dict, it_dict_bool, it_dict_int, it_dict_str, it_dict_tuple, it_dict_list, it_dict_dict, eq_self, Bool.not_true, Bool.not_false, decide_true, decide_false, true_and, and_true, Option.some.injEq, exists_eq_left, exists_eq_left', exists_eq_right, W.bl.injEq, W.int.injEq, Bool.false_eq_true, Bool.true_eq_false, reduceCtorEq, false_and, exists_false, and_self, forall_const, false_implies, true_implies, if_true, if_false, Int.reduceLE, Int.reduceLT, Int.reduceNeg, Nat.reduceLeDiff, Nat.reduceAdd, Nat.reduceSub, String.reduceEq, String.reduceBEq, String.reduceBNe, wE_mkFX, List.lookup_cons_self, beq_self_eq_true, Option.map_some, Option.map_none, ha]
      exact ⟨hL _ (List.getElem_mem hi), q⟩
end Kheldbestk65nets

end

section
set_option Elab.async false
set_option linter.all false
set_option maxRecDepth 100000
set_option maxHeartbeats 1000000
namespace Kheldbestk65nets
open PySem L2 Hb

mutual
theorem fl_dat {st : Store} : ∀ {n k : Nat} {w : W}, FlW n w → n ≤ k → ∃ d, datW st k w = some d ∧ d.canLay0 = true
  | n, k, .non, _, _ => ⟨.none, by rw [datW], by simp [PyData.canLay0]⟩
  | n, k, .bl b, _, _ => ⟨.bool b, by rw [datW], by simp [PyData.canLay0]⟩
  | n, k, .int i, _, _ => ⟨.int i, by rw [datW], by simp [PyData.canLay0]⟩
  | n, k, .str l, h, _ => ⟨.str ⟨l.toArray⟩, by rw [datW, if_pos (by cases n <;> exact h)], by
    have h' : okS l = true := by cases n <;> exact h
    unfold okS at h'
    simp only [PyData.canLay0, PyData.strOk]
    simpa using h'⟩
  | n + 1, k, .tup ws, h, hk => by
    obtain ⟨k, rfl⟩ : ∃ j, k = j + 1 := ⟨k - 1, by omega⟩
    obtain ⟨ds, h1, h2⟩ := fls_dat (st := st) (n := n) (k := k) (ws := ws) h.2 (by omega)
    exact ⟨.tuple ds, by rw [datW, h1]; rfl, by simpa [PyData.canLay0] using h2⟩
  | 0, k, .tup ws, h, _ => h.elim
  | n, k, .im ws, h, _ => by cases n <;> exact h.elim
  | n, k, .lr ws, h, _ => by cases n <;> exact h.elim
  | n, k, .sc ws, h, _ => by cases n <;> exact h.elim
  | n, k, .ref _, h, _ => by cases n <;> exact h.elim
  | n, k, .cl _, h, _ => by cases n <;> exact h.elim
termination_by n k w => (n, 0)
theorem fls_dat {st : Store} : ∀ {n k : Nat} {ws : List W}, (∀ w ∈ ws, FlW n w) → n ≤ k → ∃ ds, datWs st k ws = some ds ∧ PyData.canLayAll0 ds = true
  | n, k, [], _, _ => ⟨[], datWs_nil, by simp [PyData.canLayAll0]⟩
  | n, k, w :: ws, h, hk => by
    obtain ⟨d, h1, h2⟩ := fl_dat (st := st) (k := k) (h w List.mem_cons_self) hk
    obtain ⟨ds, h3, h4⟩ := fls_dat (st := st) (n := n) (k := k) (ws := ws) (fun x hx => h x (List.mem_cons_of_mem _ hx)) hk
    exact ⟨d :: ds, by rw [datWs_cons, h1, h3]; rfl, by simp [PyData.canLayAll0, h2, h4]⟩
termination_by n k ws => (n, ws.length + 1)
end
def Good (L : List W) : Prop := L.length ≤ 200 ∧ ∀ w ∈ L, FlW 1 w
theorem Good.lr {L : List W} (h : Good L) : ∀ w ∈ L, isLr w = false := fun w hw => isLr_fl (h.2 w hw)
structure St (st : Store) (l : List Int) (L0 L1 : List W) : Prop where
  po : IsPool st 0 l
  n0 : IsNet st 1 2 L0
  n1 : IsNet st 3 4 L1
  l0 : st[5]? = some (.lst L0)
  l1 : st[6]? = some (.lst L1)
  g0 : Good L0
  g1 : Good L1
theorem letters_ok {st : Store} {a b : Nat} {L : List W} {Q : W → Store → Prop} {E : EX} (h : IsNet st a b L) (q : Q (.tup L) st) : wE (f_Net_letters [.ref a] st) Q E := by
  obtain ⟨h1, h2⟩ := h
  unfold f_Net_letters
  try simp (config := { dsimp := false }) only [o_bl, o_slv, o_sll, o_op, o_if, o_d2, f_eq, f_ne, o_tup, o_len, o_bls, o_int, o_at, o_app, o_pop0, o_ins, o_cat, f_cnt, o_ty, o_isX, o_xf, o_cX, o_ran, o_sm, o_catchT, o_catchF, wE_oIf, gDivC, gModC, Option.isNone_none, Option.isNone_some, Option.bind_some, Bool.and_true, Bool.true_and, Bool.and_eq_true, decide_eq_true_eq, decide_eq_false_iff_not, v_catT, ln_sc, wE_ok, wE_exc, wE_bad, wE_bind, wS_nx, wS_rt, wS_bk, wS_ct, wS_exc, wS_bad, wS_bSeq, w_bNil, w_sBrk, w_sCnt, w_sIf, w_sRet, w_sRetN, w_sSet, w_sSetL, w_sExp, w_eBin, w_lBin, w_eUn, w_lUn, w_tOf, w_tAnd2, w_tOr2, w_tNot1, w_eAnd, w_eOr, w_eNot, w_eIf, w_eC, w_eTup, w_lLst, w_aNil, w_aCons, w_eIm, w_eAl, w_eCall, w_eFld, w_eM1, w_eM0, w_eM2, w_eMeth, w_ePrp, w_eNew, w_sFldW, w_sDel, w_sRaise1, v_add, v_addS, v_sub, v_mul, v_div, v_mod, v_lt, v_le, v_gt, v_ge, v_isN, v_notN, v_neg, v_int, v_intB, v_abs, v_max2, v_min2, v_eq, v_ne, v_tup, v_seqL, v_bls, v_ints, v_app, v_popAt, v_pop, v_ins, v_cat, v_cnt, w_eIsT, w_eVar, w_eIsX, w_eXf, w_eCallX, w_iRan1, w_iSeq, w_iOwn, w_lComp, w_sFor, w_for0, w_for1, w_gN, w_gSet, w_sTry, w_catch0, w_catch, w_aftX, w_sAsg, w_lCut, w_oNone, w_oSome, w_tYes, dat_cs, dat_non, dat_bl, dat_int, eqv_int, eqv_bool, eqv_cs, eqv_str, eqv_l00, eqv_l10, eqv_t00, eqv_t10, wE_mkFF, r_lstR, r_lstM, r_seqW, r_lstW, r_isL, r_insAt, r_tyW, r_srcW, r_dat, s_im, s_tup, s_lr, s_sc, l_im, l_lr, l_sc, m_im, m_lr, i_im, i_lr, i_sc, c_im, c_tup, c_sc, t_tup, t_im, t_int, t_bl, t_str, t_non, ln_ref, ln_tup, ln_im, ln_lr, ix_ref, ix_tup', ix_im, ix_lr, ix_sc, isN_ref, isN_non, isN_tup, isN_int, isN_bl, isN_str, isN_im, List.map_cons, List.map_nil, List.cons_append, List.nil_append, List.append_nil, List.getElem?_cons_zero, List.getElem?_cons_succ, List.set_cons_zero, List.set_cons_succ, List.replicate_succ, List.replicate_zero, List.length_cons, List.length_nil, List.lookup, il_int, il_bl, il_str, il_non, il_tup, il_im, il_sc, il_ref, il_cl, il_lr, ixN_zero, it_NoneType_bool, it_NoneType_int, it_NoneType_str, it_NoneType_tuple, it_NoneType_list, it_NoneType_dict, it_bool_bool, it_bool_int, it_bool_str, it_bool_tuple, it_bool_list, it_bool_dict, it_int_bool, it_int_int, it_int_str, it_int_tuple, it_int_list, it_int_dict, it_str_bool, it_str_int, it_str_str, it_str_tuple, it_str_list, it_str_dict, it_tuple_bool, it_tuple_int, it_tuple_str, it_tuple_tuple, it_tuple_list, it_tuple_dict, it_list_bool, it_list_int, it_list_str, it_list_tuple, it_list_list, it_list_dict, it_dict_bool, it_dict_int, it_dict_str, it_dict_tuple, it_dict_list, it_dict_dict, eq_self, Bool.not_true, Bool.not_false, decide_true, decide_false, true_and, and_true, Option.some.injEq, exists_eq_left, exists_eq_left', exists_eq_right, W.bl.injEq, W.int.injEq, Bool.false_eq_true, Bool.true_eq_false, reduceCtorEq, false_and, exists_false, and_self, forall_const, false_implies, true_implies, if_true, if_false, Int.reduceLE, Int.reduceLT, Int.reduceNeg, Nat.reduceLeDiff, Nat.reduceAdd, Nat.reduceSub, String.reduceEq, String.reduceBEq, String.reduceBNe, wE_mkFX, List.lookup_cons_self, beq_self_eq_true, Option.map_some, Option.map_none, h1, h2, fld__letters]
  exact q
theorem seen_ok {st : Store} {l : List Int} {L0 L1 : List W} {Q : W → Store → Prop} {E : EX} (h : St st l L0 L1) (q : Q (.bl true) st) : wE (f__law_seen [.im [.ref 1, .ref 3], .im [.ref 5, .ref 6]] st) Q E := by
  have e2 : rangeW 0 (2 : Int).toNat = [.int 0, .int 1] := rfl
  have a0 : ∀ x y : W, atW [x, y] 0 = some x := fun _ _ => rfl
  have a1 : ∀ x y : W, atW [x, y] 1 = some y := fun _ _ => rfl
  obtain ⟨n01, n02⟩ := h.n0
  obtain ⟨n11, n12⟩ := h.n1
  obtain ⟨ds0, d0, c0⟩ := fls_dat (st := st) (k := 15) h.g0.2 (by omega)
  obtain ⟨ds1, d1, c1⟩ := fls_dat (st := st) (k := 15) h.g1.2 (by omega)
  have o0 : ownW it_letters "_letters" st (.ref 1) = some (L0, some 2) := by simp [ownW, r_insAt, n01, n02, it_letters, List.lookup]
  have o1 : ownW it_letters "_letters" st (.ref 3) = some (L1, some 4) := by simp [ownW, r_insAt, n11, n12, it_letters, List.lookup]
  have s2 : smallI 2 = true := by decide
  have eqL : ∀ ds, PyData.canLayAll0 ds = true → PyData.eqv (.list ds) (.list ds) = true := fun ds hd => eqv_refl _ (by simpa [PyData.canLay0] using hd)
  have eqT : ∀ ds, PyData.canLayAll0 ds = true → PyData.eqv (.tuple ds) (.tuple ds) = true := fun ds hd => eqv_refl _ (by simpa [PyData.canLay0] using hd)
  unfold f__law_seen
  try simp (config := { dsimp := false }) only [o_bl, o_slv, o_sll, o_op, o_if, o_d2, f_eq, f_ne, o_tup, o_len, o_bls, o_int, o_at, o_app, o_pop0, o_ins, o_cat, f_cnt, o_ty, o_isX, o_xf, o_cX, o_ran, o_sm, o_catchT, o_catchF, wE_oIf, gDivC, gModC, Option.isNone_none, Option.isNone_some, Option.bind_some, Bool.and_true, Bool.true_and, Bool.and_eq_true, decide_eq_true_eq, decide_eq_false_iff_not, v_catT, ln_sc, wE_ok, wE_exc, wE_bad, wE_bind, wS_nx, wS_rt, wS_bk, wS_ct, wS_exc, wS_bad, wS_bSeq, w_bNil, w_sBrk, w_sCnt, w_sIf, w_sRet, w_sRetN, w_sSet, w_sSetL, w_sExp, w_eBin, w_lBin, w_eUn, w_lUn, w_tOf, w_tAnd2, w_tOr2, w_tNot1, w_eAnd, w_eOr, w_eNot, w_eIf, w_eC, w_eTup, w_lLst, w_aNil, w_aCons, w_eIm, w_eAl, w_eCall, w_eFld, w_eM1, w_eM0, w_eM2, w_eMeth, w_ePrp, w_eNew, w_sFldW, w_sDel, w_sRaise1, v_add, v_addS, v_sub, v_mul, v_div, v_mod, v_lt, v_le, v_gt, v_ge, v_isN, v_notN, v_neg, v_int, v_intB, v_abs, v_max2, v_min2, v_eq, v_ne, v_tup, v_seqL, v_bls, v_ints, v_app, v_popAt, v_pop, v_ins, v_cat, v_cnt, w_eIsT, w_eVar, w_eIsX, w_eXf, w_eCallX, w_iRan1, w_iSeq, w_iOwn, w_lComp, w_sFor, w_for0, w_for1, w_gN, w_gSet, w_sTry, w_catch0, w_catch, w_aftX, w_sAsg, w_lCut, w_oNone, w_oSome, w_tYes, dat_cs, dat_non, dat_bl, dat_int, eqv_int, eqv_bool, eqv_cs, eqv_str, eqv_l00, eqv_l10, eqv_t00, eqv_t10, wE_mkFF, r_lstR, r_lstM, r_seqW, r_lstW, r_isL, r_insAt, r_tyW, r_srcW, r_dat, s_im, s_tup, s_lr, s_sc, l_im, l_lr, l_sc, m_im, m_lr, i_im, i_lr, i_sc, c_im, c_tup, c_sc, t_tup, t_im, t_int, t_bl, t_str, t_non, ln_ref, ln_tup, ln_im, ln_lr, ix_ref, ix_tup', ix_im, ix_lr, ix_sc, isN_ref, isN_non, isN_tup, isN_int, isN_bl, isN_str, isN_im, List.map_cons, List.map_nil, List.cons_append, List.nil_append, List.append_nil, List.getElem?_cons_zero, List.getElem?_cons_succ, List.set_cons_zero, List.set_cons_succ, List.replicate_succ, List.replicate_zero, List.length_cons, List.length_nil, List.lookup, il_int, il_bl, il_str, il_non, il_tup, il_im, il_sc, il_ref, il_cl, il_lr, ixN_zero, it_NoneType_bool, it_NoneType_int, it_NoneType_str, it_NoneType_tuple, it_NoneType_list, it_NoneType_dict, it_bool_bool, it_bool_int, it_bool_str, it_bool_tuple, it_bool_list, it_bool_dict, it_int_bool, it_int_int, it_int_str, it_int_tuple, it_int_list, it_int_dict, it_str_bool, it_str_int, it_str_str, it_str_tuple, it_str_list, it_str_dict, it_tuple_bool, it_tuple_int, it_tuple_str, it_tuple_tuple, it_tuple_list, it_tuple_dict, it_list_bool, it_list_int, it_list_str, it_list_tuple, it_list_list, it_list_dict, it_dict_bool, it_dict_int, it_dict_str, it_dict_tuple, it_dict_list, it_dict_dict, eq_self, Bool.not_true, Bool.not_false, decide_true, decide_false, true_and, and_true, Option.some.injEq, exists_eq_left, exists_eq_left', exists_eq_right, W.bl.injEq, W.int.injEq, Bool.false_eq_true, Bool.true_eq_false, reduceCtorEq, false_and, exists_false, and_self, forall_const, false_implies, true_implies, if_true, if_false, Int.reduceLE, Int.reduceLT, Int.reduceNeg, Nat.reduceLeDiff, Nat.reduceAdd, Nat.reduceSub, String.reduceEq, String.reduceBEq, String.reduceBNe, wE_mkFX, List.lookup_cons_self, beq_self_eq_true, Option.map_some, Option.map_none, e2, s2, a0, o0, wipeE]
  refine comp_id (by show seqW st (.ref 2) = some L0; simp [seqW, n02]) (by simp) _ _ h.g0.lr (by have := h.g0.1; simp; omega) ?_
  try simp (config := { dsimp := false }) only [o_bl, o_slv, o_sll, o_op, o_if, o_d2, f_eq, f_ne, o_tup, o_len, o_bls, o_int, o_at, o_app, o_pop0, o_ins, o_cat, f_cnt, o_ty, o_isX, o_xf, o_cX, o_ran, o_sm, o_catchT, o_catchF, wE_oIf, gDivC, gModC, Option.isNone_none, Option.isNone_some, Option.bind_some, Bool.and_true, Bool.true_and, Bool.and_eq_true, decide_eq_true_eq, decide_eq_false_iff_not, v_catT, ln_sc, wE_ok, wE_exc, wE_bad, wE_bind, wS_nx, wS_rt, wS_bk, wS_ct, wS_exc, wS_bad, wS_bSeq, w_bNil, w_sBrk, w_sCnt, w_sIf, w_sRet, w_sRetN, w_sSet, w_sSetL, w_sExp, w_eBin, w_lBin, w_eUn, w_lUn, w_tOf, w_tAnd2, w_tOr2, w_tNot1, w_eAnd, w_eOr, w_eNot, w_eIf, w_eC, w_eTup, w_lLst, w_aNil, w_aCons, w_eIm, w_eAl, w_eCall, w_eFld, w_eM1, w_eM0, w_eM2, w_eMeth, w_ePrp, w_eNew, w_sFldW, w_sDel, w_sRaise1, v_add, v_addS, v_sub, v_mul, v_div, v_mod, v_lt, v_le, v_gt, v_ge, v_isN, v_notN, v_neg, v_int, v_intB, v_abs, v_max2, v_min2, v_eq, v_ne, v_tup, v_seqL, v_bls, v_ints, v_app, v_popAt, v_pop, v_ins, v_cat, v_cnt, w_eIsT, w_eVar, w_eIsX, w_eXf, w_eCallX, w_iRan1, w_iSeq, w_iOwn, w_lComp, w_sFor, w_for0, w_for1, w_gN, w_gSet, w_sTry, w_catch0, w_catch, w_aftX, w_sAsg, w_lCut, w_oNone, w_oSome, w_tYes, dat_cs, dat_non, dat_bl, dat_int, eqv_int, eqv_bool, eqv_cs, eqv_str, eqv_l00, eqv_l10, eqv_t00, eqv_t10, wE_mkFF, r_lstR, r_lstM, r_seqW, r_lstW, r_isL, r_insAt, r_tyW, r_srcW, r_dat, s_im, s_tup, s_lr, s_sc, l_im, l_lr, l_sc, m_im, m_lr, i_im, i_lr, i_sc, c_im, c_tup, c_sc, t_tup, t_im, t_int, t_bl, t_str, t_non, ln_ref, ln_tup, ln_im, ln_lr, ix_ref, ix_tup', ix_im, ix_lr, ix_sc, isN_ref, isN_non, isN_tup, isN_int, isN_bl, isN_str, isN_im, List.map_cons, List.map_nil, List.cons_append, List.nil_append, List.append_nil, List.getElem?_cons_zero, List.getElem?_cons_succ, List.set_cons_zero, List.set_cons_succ, List.replicate_succ, List.replicate_zero, List.length_cons, List.length_nil, List.lookup, il_int, il_bl, il_str, il_non, il_tup, il_im, il_sc, il_ref, il_cl, il_lr, ixN_zero, it_NoneType_bool, it_NoneType_int, it_NoneType_str, it_NoneType_tuple, it_NoneType_list, it_NoneType_dict, it_bool_bool, it_bool_int, it_bool_str, it_bool_tuple, it_bool_list, it_bool_dict, it_int_bool, it_int_int, it_int_str, it_int_tuple, it_int_list, it_int_dict, it_str_bool, it_str_int, it_str_str, it_str_tuple, it_str_list, it_str_dict, it_tuple_bool, it_tuple_int, it_tuple_str, it_tuple_tuple, it_tuple_list, it_tuple_dict, it_list_bool, it_list_int, it_list_str, it_list_tuple, it_list_list, it_list_dict, it_dict_bool, it_dict_int, it_dict_str, it_dict_tuple, it_dict_list, it_dict_dict, eq_self, Bool.not_true, Bool.not_false, decide_true, decide_false, true_and, and_true, Option.some.injEq, exists_eq_left, exists_eq_left', exists_eq_right, W.bl.injEq, W.int.injEq, Bool.false_eq_true, Bool.true_eq_false, reduceCtorEq, false_and, exists_false, and_self, forall_const, false_implies, true_implies, if_true, if_false, Int.reduceLE, Int.reduceLT, Int.reduceNeg, Nat.reduceLeDiff, Nat.reduceAdd, Nat.reduceSub, String.reduceEq, String.reduceBEq, String.reduceBNe, wE_mkFX, List.lookup_cons_self, beq_self_eq_true, Option.map_some, Option.map_none, a0, h.l0, dat_im, d0, eqL _ c0, n01]
  rw [o_prp (m := f_Net_letters) rfl]
  refine letters_ok h.n0 ?_
  try simp (config := { dsimp := false }) only [o_bl, o_slv, o_sll, o_op, o_if, o_d2, f_eq, f_ne, o_tup, o_len, o_bls, o_int, o_at, o_app, o_pop0, o_ins, o_cat, f_cnt, o_ty, o_isX, o_xf, o_cX, o_ran, o_sm, o_catchT, o_catchF, wE_oIf, gDivC, gModC, Option.isNone_none, Option.isNone_some, Option.bind_some, Bool.and_true, Bool.true_and, Bool.and_eq_true, decide_eq_true_eq, decide_eq_false_iff_not, v_catT, ln_sc, wE_ok, wE_exc, wE_bad, wE_bind, wS_nx, wS_rt, wS_bk, wS_ct, wS_exc, wS_bad, wS_bSeq, w_bNil, w_sBrk, w_sCnt, w_sIf, w_sRet, w_sRetN, w_sSet, w_sSetL, w_sExp, w_eBin, w_lBin, w_eUn, w_lUn, w_tOf, w_tAnd2, w_tOr2, w_tNot1, w_eAnd, w_eOr, w_eNot, w_eIf, w_eC, w_eTup, w_lLst, w_aNil, w_aCons, w_eIm, w_eAl, w_eCall, w_eFld, w_eM1, w_eM0, w_eM2, w_eMeth, w_ePrp, w_eNew, w_sFldW, w_sDel, w_sRaise1, v_add, v_addS, v_sub, v_mul, v_div, v_mod, v_lt, v_le, v_gt, v_ge, v_isN, v_notN, v_neg, v_int, v_intB, v_abs, v_max2, v_min2, v_eq, v_ne, v_tup, v_seqL, v_bls, v_ints, v_app, v_popAt, v_pop, v_ins, v_cat, v_cnt, w_eIsT, w_eVar, w_eIsX, w_eXf, w_eCallX, w_iRan1, w_iSeq, w_iOwn, w_lComp, w_sFor, w_for0, w_for1, w_gN, w_gSet, w_sTry, w_catch0, w_catch, w_aftX, w_sAsg, w_lCut, w_oNone, w_oSome, w_tYes, dat_cs, dat_non, dat_bl, dat_int, eqv_int, eqv_bool, eqv_cs, eqv_str, eqv_l00, eqv_l10, eqv_t00, eqv_t10, wE_mkFF, r_lstR, r_lstM, r_seqW, r_lstW, r_isL, r_insAt, r_tyW, r_srcW, r_dat, s_im, s_tup, s_lr, s_sc, l_im, l_lr, l_sc, m_im, m_lr, i_im, i_lr, i_sc, c_im, c_tup, c_sc, t_tup, t_im, t_int, t_bl, t_str, t_non, ln_ref, ln_tup, ln_im, ln_lr, ix_ref, ix_tup', ix_im, ix_lr, ix_sc, isN_ref, isN_non, isN_tup, isN_int, isN_bl, isN_str, isN_im, List.map_cons, List.map_nil, List.cons_append, List.nil_append, List.append_nil, List.getElem?_cons_zero, List.getElem?_cons_succ, List.set_cons_zero, List.set_cons_succ, List.replicate_succ, List.replicate_zero, List.length_cons, List.length_nil, List.lookup, il_int, il_bl, il_str, il_non, il_tup, il_im, il_sc, il_ref, il_cl, il_lr, ixN_zero, it_NoneType_bool, it_NoneType_int, it_NoneType_str, it_NoneType_tuple, it_NoneType_list, it_NoneType_dict, it_bool_bool, it_bool_int, it_bool_str, it_bool_tuple, it_bool_list, it_bool_dict, it_int_bool, it_int_int, it_int_str, it_int_tuple, it_int_list, it_int_dict, it_str_bool, it_str_int, it_str_str, it_str_tuple, it_str_list, it_str_dict, it_tuple_bool, it_tuple_int, it_tuple_str, it_tuple_tuple, it_tuple_list, it_tuple_dict, it_list_bool, it_list_int, it_list_str, it_list_tuple, it_list_list, it_list_dict, it_dict_bool, it_dict_int, it_dict_str, it_dict_tuple, it_dict_list, it_dict_dict, eq_self, Bool.not_true, Bool.not_false, decide_true, decide_false, true_and, and_true, Option.some.injEq, exists_eq_left, exists_eq_left', exists_eq_right, W.bl.injEq, W.int.injEq, Bool.false_eq_true, Bool.true_eq_false, reduceCtorEq, false_and, exists_false, and_self, forall_const, false_implies, true_implies, if_true, if_false, Int.reduceLE, Int.reduceLT, Int.reduceNeg, Nat.reduceLeDiff, Nat.reduceAdd, Nat.reduceSub, String.reduceEq, String.reduceBEq, String.reduceBNe, wE_mkFX, List.lookup_cons_self, beq_self_eq_true, Option.map_some, Option.map_none, a0, h.l0, dat_tup, d0, eqT _ c0, a1, o1, wipeE]
  refine comp_id (by show seqW st (.ref 4) = some L1; simp [seqW, n12]) (by simp) _ _ h.g1.lr (by have := h.g1.1; simp; omega) ?_
  try simp (config := { dsimp := false }) only [o_bl, o_slv, o_sll, o_op, o_if, o_d2, f_eq, f_ne, o_tup, o_len, o_bls, o_int, o_at, o_app, o_pop0, o_ins, o_cat, f_cnt, o_ty, o_isX, o_xf, o_cX, o_ran, o_sm, o_catchT, o_catchF, wE_oIf, gDivC, gModC, Option.isNone_none, Option.isNone_some, Option.bind_some, Bool.and_true, Bool.true_and, Bool.and_eq_true, decide_eq_true_eq, decide_eq_false_iff_not, v_catT, ln_sc, wE_ok, wE_exc, wE_bad, wE_bind, wS_nx, wS_rt, wS_bk, wS_ct, wS_exc, wS_bad, wS_bSeq, w_bNil, w_sBrk, w_sCnt, w_sIf, w_sRet, w_sRetN, w_sSet, w_sSetL, w_sExp, w_eBin, w_lBin, w_eUn, w_lUn, w_tOf, w_tAnd2, w_tOr2, w_tNot1, w_eAnd, w_eOr, w_eNot, w_eIf, w_eC, w_eTup, w_lLst, w_aNil, w_aCons, w_eIm, w_eAl, w_eCall, w_eFld, w_eM1, w_eM0, w_eM2, w_eMeth, w_ePrp, w_eNew, w_sFldW, w_sDel, w_sRaise1, v_add, v_addS, v_sub, v_mul, v_div, v_mod, v_lt, v_le, v_gt, v_ge, v_isN, v_notN, v_neg, v_int, v_intB, v_abs, v_max2, v_min2, v_eq, v_ne, v_tup, v_seqL, v_bls, v_ints, v_app, v_popAt, v_pop, v_ins, v_cat, v_cnt, w_eIsT, w_eVar, w_eIsX, w_eXf, w_eCallX, w_iRan1, w_iSeq, w_iOwn, w_lComp, w_sFor, w_for0, w_for1, w_gN, w_gSet, w_sTry, w_catch0, w_catch, w_aftX, w_sAsg, w_lCut, w_oNone, w_oSome, w_tYes, dat_cs, dat_non, dat_bl, dat_int, eqv_int, eqv_bool, eqv_cs, eqv_str, eqv_l00, eqv_l10, eqv_t00, eqv_t10, wE_mkFF, r_lstR, r_lstM, r_seqW, r_lstW, r_isL, r_insAt, r_tyW, r_srcW, r_dat, s_im, s_tup, s_lr, s_sc, l_im, l_lr, l_sc, m_im, m_lr, i_im, i_lr, i_sc, c_im, c_tup, c_sc, t_tup, t_im, t_int, t_bl, t_str, t_non, ln_ref, ln_tup, ln_im, ln_lr, ix_ref, ix_tup', ix_im, ix_lr, ix_sc, isN_ref, isN_non, isN_tup, isN_int, isN_bl, isN_str, isN_im, List.map_cons, List.map_nil, List.cons_append, List.nil_append, List.append_nil, List.getElem?_cons_zero, List.getElem?_cons_succ, List.set_cons_zero, List.set_cons_succ, List.replicate_succ, List.replicate_zero, List.length_cons, List.length_nil, List.lookup, il_int, il_bl, il_str, il_non, il_tup, il_im, il_sc, il_ref, il_cl, il_lr, ixN_zero, it_NoneType_bool, it_NoneType_int, it_NoneType_str, it_NoneType_tuple, it_NoneType_list, it_NoneType_dict, it_bool_bool, it_bool_int, it_bool_str, it_bool_tuple, it_bool_list, it_bool_dict, it_int_bool, it_int_int, it_int_str, it_int_tuple, it_int_list, it_int_dict, it_str_bool, it_str_int, it_str_str, it_str_tuple, it_str_list, it_str_dict, it_tuple_bool, it_tuple_int, it_tuple_str, it_tuple_tuple, it_tuple_list, it_tuple_dict, it_list_bool, it_list_int, it_list_str, it_list_tuple, it_list_list, it_list_dict, it_dict_bool, it_dict_int, it_dict_str, it_dict_tuple, it_dict_list, it_dict_dict, eq_self, Bool.not_true, Bool.not_false, decide_true, decide_false, true_and, and_true, Option.some.injEq, exists_eq_left, exists_eq_left', exists_eq_right, W.bl.injEq, W.int.injEq, Bool.false_eq_true, Bool.true_eq_false, reduceCtorEq, false_and, exists_false, and_self, forall_const, false_implies, true_implies, if_true, if_false, Int.reduceLE, Int.reduceLT, Int.reduceNeg, Nat.reduceLeDiff, Nat.reduceAdd, Nat.reduceSub, String.reduceEq, String.reduceBEq, String.reduceBNe, wE_mkFX, List.lookup_cons_self, beq_self_eq_true, Option.map_some, Option.map_none, a1, h.l1, dat_im, d1, eqL _ c1, n11]
  rw [o_prp (m := f_Net_letters) rfl]
  refine letters_ok h.n1 ?_
  try simp (config := { dsimp := false }) only [o_bl, o_slv, o_sll, o_op, o_if, o_d2, f_eq, f_ne, o_tup, o_len, o_bls, o_int, o_at, o_app, o_pop0, o_ins, o_cat, f_cnt, o_ty, o_isX, o_xf, o_cX, o_ran, o_sm, o_catchT, o_catchF, wE_oIf, gDivC, gModC, Option.isNone_none, Option.isNone_some, Option.bind_some, Bool.and_true, Bool.true_and, Bool.and_eq_true, decide_eq_true_eq, decide_eq_false_iff_not, v_catT, ln_sc, wE_ok, wE_exc, wE_bad, wE_bind, wS_nx, wS_rt, wS_bk, wS_ct, wS_exc, wS_bad, wS_bSeq, w_bNil, w_sBrk, w_sCnt, w_sIf, w_sRet, w_sRetN, w_sSet, w_sSetL, w_sExp, w_eBin, w_lBin, w_eUn, w_lUn, w_tOf, w_tAnd2, w_tOr2, w_tNot1, w_eAnd, w_eOr, w_eNot, w_eIf, w_eC, w_eTup, w_lLst, w_aNil, w_aCons, w_eIm, w_eAl, w_eCall, w_eFld, w_eM1, w_eM0, w_eM2, w_eMeth, w_ePrp, w_eNew, w_sFldW, w_sDel, w_sRaise1, v_add, v_addS, v_sub, v_mul, v_div, v_mod, v_lt, v_le, v_gt, v_ge, v_isN, v_notN, v_neg, v_int, v_intB, v_abs, v_max2, v_min2, v_eq, v_ne, v_tup, v_seqL, v_bls, v_ints, v_app, v_popAt, v_pop, v_ins, v_cat, v_cnt, w_eIsT, w_eVar, w_eIsX, w_eXf, w_eCallX, w_iRan1, w_iSeq, w_iOwn, w_lComp, w_sFor, w_for0, w_for1, w_gN, w_gSet, w_sTry, w_catch0, w_catch, w_aftX, w_sAsg, w_lCut, w_oNone, w_oSome, w_tYes, dat_cs, dat_non, dat_bl, dat_int, eqv_int, eqv_bool, eqv_cs, eqv_str, eqv_l00, eqv_l10, eqv_t00, eqv_t10, wE_mkFF, r_lstR, r_lstM, r_seqW, r_lstW, r_isL, r_insAt, r_tyW, r_srcW, r_dat, s_im, s_tup, s_lr, s_sc, l_im, l_lr, l_sc, m_im, m_lr, i_im, i_lr, i_sc, c_im, c_tup, c_sc, t_tup, t_im, t_int, t_bl, t_str, t_non, ln_ref, ln_tup, ln_im, ln_lr, ix_ref, ix_tup', ix_im, ix_lr, ix_sc, isN_ref, isN_non, isN_tup, isN_int, isN_bl, isN_str, isN_im, List.map_cons, List.map_nil, List.cons_append, List.nil_append, List.append_nil, List.getElem?_cons_zero, List.getElem?_cons_succ, List.set_cons_zero, List.set_cons_succ, List.replicate_succ, List.replicate_zero, List.length_cons, List.length_nil, List.lookup, il_int, il_bl, il_str, il_non, il_tup, il_im, il_sc, il_ref, il_cl, il_lr, ixN_zero, it_NoneType_bool, it_NoneType_int, it_NoneType_str, it_NoneType_tuple, it_NoneType_list, it_NoneType_dict, it_bool_bool, it_bool_int, it_bool_str, it_bool_tuple, it_bool_list, it_bool_dict, it_int_bool, it_int_int, it_int_str, it_int_tuple, it_int_list, it_int_dict, it_str_bool, it_str_int, it_str_str, it_str_tuple, it_str_list, it_str_dict, it_tuple_bool, it_tuple_int, it_tuple_str, it_tuple_tuple, it_tuple_list, it_tuple_dict, it_list_bool, it_list_int, it_list_str, it_list_tuple, it_list_list, it_list_dict, it_dict_bool, it_dict_int, it_dict_str, it_dict_tuple, it_dict_list, it_dict_dict, eq_self, Bool.not_true, Bool.not_false, decide_true, decide_false, true_and, and_true, Option.some.injEq, exists_eq_left, exists_eq_left', exists_eq_right, W.bl.injEq, W.int.injEq, Bool.false_eq_true, Bool.true_eq_false, reduceCtorEq, false_and, exists_false, and_self, forall_const, false_implies, true_implies, if_true, if_false, Int.reduceLE, Int.reduceLT, Int.reduceNeg, Nat.reduceLeDiff, Nat.reduceAdd, Nat.reduceSub, String.reduceEq, String.reduceBEq, String.reduceBNe, wE_mkFX, List.lookup_cons_self, beq_self_eq_true, Option.map_some, Option.map_none, a1, h.l1, dat_tup, d1, eqT _ c1]
  exact q
end Kheldbestk65nets

end

section
set_option Elab.async false
set_option linter.all false
set_option maxRecDepth 100000
set_option maxHeartbeats 2000000
namespace Kheldbestk65nets
open PySem L2 Hb

/-- nothing but cell 0 is another -/
structure Sm (st s : Store) : Prop where
  len : s.length = st.length
  at' : ∀ i, i ≠ 0 → s[i]? = st[i]?
theorem Sm.refl {st : Store} : Sm st st := ⟨rfl, fun _ _ => rfl⟩
theorem Sm.set {st : Store} {c : Cell} : Sm st (st.set 0 c) := ⟨by simp, fun i h => by rw [List.getElem?_set_ne (Ne.symm h)]⟩
theorem drawA {st : Store} {l : List Int} {m : Int} {Q : W → Store → Prop} {E : EX} (h : IsPool st 0 l) (hm : 0 < m) (hm2 : m < 1073741824)
    (hq : ∀ r l' s, 0 ≤ r → r < m → IsPool s 0 l' → Sm st s → Q (.int r) s) : wE (f__law_draw [.ref 0, .int m] st) Q E :=
  draw_ok h hm hm2 fun r l' h1 h2 h3 => hq r l' _ h1 h2 h3 .set
theorem letterA {st : Store} {l : List Int} {Q : W → Store → Prop} {E : EX} (h : IsPool st 0 l)
    (hq : ∀ w l' s, IsLetter w → IsPool s 0 l' → Sm st s → Q w s) : wE (f__law_letter [.ref 0] st) Q E :=
  letter_ok h fun w l' h1 h2 => hq w l' _ h1 h2 .set
/-- a net, its list of the law, and what a deed leaves -/
structure Dd (st : Store) (l : List Int) (a b c : Nat) (L : List W) : Prop where
  po : IsPool st 0 l
  nt : IsNet st a b L
  ls : st[c]? = some (.lst L)
  gd : Good L
  ab : a ≠ b
  ac : a ≠ c
  bc : b ≠ c
  a0 : a ≠ 0
  b0 : b ≠ 0
  c0 : c ≠ 0
theorem Dd.sm {st s : Store} {l l' : List Int} {a b c : Nat} {L : List W} (d : Dd st l a b c L) (h : Sm st s) (hp : IsPool s 0 l') : Dd s l' a b c L :=
  ⟨hp, ⟨by rw [h.at' _ d.a0]; exact d.nt.1, by rw [h.at' _ d.b0]; exact d.nt.2⟩, by rw [h.at' _ d.c0]; exact d.ls, d.gd, d.ab, d.ac, d.bc, d.a0, d.b0, d.c0⟩
theorem FlW.mono : ∀ {n m : Nat} {w : W}, FlW n w → n ≤ m → FlW m w
  | n, m, .non, _, _ => by cases m <;> trivial
  | n, m, .bl _, _, _ => by cases m <;> trivial
  | n, m, .int _, _, _ => by cases m <;> trivial
  | n, m, .str l, h, _ => by
    have h' : okS l = true := by cases n <;> exact h
    cases m <;> exact h'
  | n + 1, m + 1, .tup ws, h, hm => ⟨h.1, fun w hw => FlW.mono (h.2 w hw) (by omega)⟩
  | n + 1, 0, .tup ws, h, hm => by omega
  | 0, m, .tup ws, h, _ => h.elim
  | n, m, .im ws, h, _ => by cases n <;> exact h.elim
  | n, m, .lr ws, h, _ => by cases n <;> exact h.elim
  | n, m, .sc ws, h, _ => by cases n <;> exact h.elim
  | n, m, .ref _, h, _ => by cases n <;> exact h.elim
  | n, m, .cl _, h, _ => by cases n <;> exact h.elim
theorem fl_cs {n : Nat} {s : String} : FlW n (.str (cs s)) := by cases n <;> exact okS_all s
theorem fl_int {n : Nat} {i : Int} : FlW n (.int i) := by cases n <;> trivial
theorem fl_bl {n : Nat} {b : Bool} : FlW n (.bl b) := by cases n <;> trivial
theorem fl_non {n : Nat} : FlW n .non := by cases n <;> trivial
theorem deed_fl {k : String} {p : Int} {w : W} {L : List W} (hw : FlW 1 w) (g : Good L) : FlW 7 (deed k p w L).1 ∧ Good (deed k p w L).2 := by
  have t2 : ∀ s w, FlW 6 w → FlW 7 (.tup [.str (cs s), w]) := fun s w h => ⟨by simp, by
    intro x hx
    simp only [List.mem_cons, List.not_mem_nil, or_false] at hx
    rcases hx with rfl | rfl
    · exact fl_cs
    · exact h⟩
  unfold deed
  split
  · split
    · exact ⟨t2 _ _ fl_bl, g⟩
    · refine ⟨t2 _ _ fl_bl, by have := g.1; simp; omega, fun x hx => ?_⟩
      rcases List.mem_append.mp hx with h | h
      · exact g.2 x h
      · rw [List.mem_singleton.mp h]; exact hw
  · split
    · rename_i h
      have hi : p.toNat < L.length := by omega
      refine ⟨t2 _ _ ?_, ?_⟩
      · rw [getD_of (List.getElem?_eq_getElem hi)]
        exact (g.2 _ (List.getElem_mem hi)).mono (by omega)
      · split
        · exact ⟨by have := g.1; rw [List.length_eraseIdx]; split <;> omega, fun x hx => g.2 x (List.mem_of_mem_eraseIdx hx)⟩
        · exact g
    · exact ⟨t2 _ _ fl_int, g⟩
theorem letter_fl {w : W} (h : IsLetter w) : ∃ us j, w = .tup us ∧ FlW 1 (.tup us) ∧ us[1]? = some (.int j) ∧ us.length < 20 := by
  obtain ⟨s, ns, hs, rfl, h1, h2⟩ := h
  obtain ⟨j, ns, rfl⟩ : ∃ j ns', ns = j :: ns' := by
    cases ns with
    | nil => simp at h1
    | cons j ns => exact ⟨j, ns, rfl⟩
  refine ⟨_, j, rfl, ⟨by simp at h2 ⊢; omega, ?_⟩, rfl, by simp at h2 ⊢; omega⟩
  intro x hx
  rcases List.mem_cons.mp hx with rfl | hx
  · exact fl_cs
  · obtain ⟨i, _, rfl⟩ := List.mem_map.mp hx
    exact fl_int
theorem St.sm {st s : Store} {l l' : List Int} {L0 L1 : List W} (h : St st l L0 L1) (m : Sm st s) (p : IsPool s 0 l') : St s l' L0 L1 :=
  ⟨p, ⟨by rw [m.at' _ (by omega)]; exact h.n0.1, by rw [m.at' _ (by omega)]; exact h.n0.2⟩, ⟨by rw [m.at' _ (by omega)]; exact h.n1.1, by rw [m.at' _ (by omega)]; exact h.n1.2⟩, by rw [m.at' _ (by omega)]; exact h.l0, by rw [m.at' _ (by omega)]; exact h.l1, h.g0, h.g1⟩
/-- one of the two nets -/
theorem pick {st : Store} {l : List Int} {L0 L1 : List W} {w : Int} (h : St st l L0 L1) (w0 : 0 ≤ w) (w1 : w < 2) : ∃ a b c L, atW [W.ref 1, .ref 3] w = some (.ref a) ∧ atW [W.ref 5, .ref 6] w = some (.ref c) ∧ Dd st l a b c L ∧ a < 7 ∧ b < 7 ∧ c < 7 ∧
    ∀ s l' L', Dd s l' a b c L' → (∀ i, i < 7 → i ≠ 0 → i ≠ b → i ≠ c → s[i]? = st[i]?) → ∃ L0' L1', St s l' L0' L1' := by
  rcases (show w = 0 ∨ w = 1 by omega) with rfl | rfl
  · refine ⟨1, 2, 5, L0, rfl, rfl, ⟨h.po, h.n0, h.l0, h.g0, by omega, by omega, by omega, by omega, by omega, by omega⟩, by omega, by omega, by omega, fun s l' L' d m => ⟨L', L1, d.po, d.nt, ⟨?_, ?_⟩, d.ls, ?_, d.gd, h.g1⟩⟩
    · rw [m _ (by omega) (by omega) (by omega) (by omega)]; exact h.n1.1
    · rw [m _ (by omega) (by omega) (by omega) (by omega)]; exact h.n1.2
    · rw [m _ (by omega) (by omega) (by omega) (by omega)]; exact h.l1
  · refine ⟨3, 4, 6, L1, rfl, rfl, ⟨h.po, h.n1, h.l1, h.g1, by omega, by omega, by omega, by omega, by omega, by omega⟩, by omega, by omega, by omega, fun s l' L' d m => ⟨L0, L', d.po, ⟨?_, ?_⟩, d.nt, ?_, d.ls, h.g0, d.gd⟩⟩
    · rw [m _ (by omega) (by omega) (by omega) (by omega)]; exact h.n0.1
    · rw [m _ (by omega) (by omega) (by omega) (by omega)]; exact h.n0.2
    · rw [m _ (by omega) (by omega) (by omega) (by omega)]; exact h.l0
/-- the letter as handed over -/
def Hd (w : W) (us : List W) (s : Store) : Prop := w = .tup us ∨ ∃ h, w = .ref h ∧ 7 ≤ h ∧ s[h]? = some (.lst us)
theorem Hd.same {us : List W} {s : Store} : Hd (.tup us) us s := .inl rfl
theorem Hd.push {us : List W} {s : Store} (h : 7 ≤ s.length) : Hd (.ref s.length) us (s ++ [.lst us]) := .inr ⟨_, rfl, h, by simp⟩
theorem Hd.sm {w : W} {us : List W} {st s : Store} (h : Hd w us st) (m : Sm st s) : Hd w us s := by
  rcases h with h | ⟨h, e, h7, hc⟩
  · exact .inl h
  · exact .inr ⟨h, e, h7, by rw [m.at' _ (by omega)]; exact hc⟩
theorem Hd.seq {w : W} {us : List W} {st : Store} (h : Hd w us st) : seqW st w = some us ∧ isLr w = false := by
  rcases h with rfl | ⟨h, rfl, _, hc⟩
  · exact ⟨rfl, rfl⟩
  · exact ⟨by simp [seqW, hc], rfl⟩
theorem ne_push {s : Store} {c x : Cell} {i : Nat} (h : s[i]? = some x) : (s ++ [c])[i]? = some x := by
  rw [List.getElem?_append_left (List.getElem?_eq_some_iff.mp h).1]; exact h
theorem Dd.push {st : Store} {l : List Int} {a b c : Nat} {L us : List W} (d : Dd st l a b c L) : Dd (st ++ [.lst us]) l a b c L :=
  ⟨⟨ne_push d.po.1, d.po.2⟩, ⟨ne_push d.nt.1, ne_push d.nt.2⟩, ne_push d.ls, d.gd, d.ab, d.ac, d.bc, d.a0, d.b0, d.c0⟩
theorem fin_push {st : Store} {us : List W} {b c : Nat} {P : List Int → List W → Store → Prop} (f : ∀ s l' L', P l' L' s → (∀ i, i < 7 → i ≠ 0 → i ≠ b → i ≠ c → s[i]? = st[i]?) → ∃ L0' L1', St s l' L0' L1') (h7 : 7 ≤ st.length) :
    ∀ s l' L', P l' L' s → (∀ i, i < 7 → i ≠ 0 → i ≠ b → i ≠ c → s[i]? = (st ++ [Cell.lst us])[i]?) → ∃ L0' L1', St s l' L0' L1' := fun s l' L' p h => f s l' L' p fun i i1 i2 i3 i4 => by rw [h i i1 i2 i3 i4, List.getElem?_append_left (by omega)]
theorem Dd.two {st : Store} {l : List Int} {a b c : Nat} {L L' : List W} (d : Dd st l a b c L) (g : Good L') : Dd ((st.set b (.lst L')).set c (.lst L')) l a b c L' := by
  have lb := (List.getElem?_eq_some_iff.mp d.nt.2).1
  have lc := (List.getElem?_eq_some_iff.mp d.ls).1
  refine ⟨⟨?_, d.po.2⟩, ⟨?_, ?_⟩, ?_, g, d.ab, d.ac, d.bc, d.a0, d.b0, d.c0⟩
  · rw [List.getElem?_set_ne d.c0, List.getElem?_set_ne d.b0]; exact d.po.1
  · rw [List.getElem?_set_ne (Ne.symm d.ac), List.getElem?_set_ne (Ne.symm d.ab)]; exact d.nt.1
  · rw [List.getElem?_set_ne (Ne.symm d.bc), List.getElem?_set_self lb]
  · rw [List.getElem?_set_self (by simpa using lc)]
theorem fin_two {st : Store} {b c : Nat} {P : List Int → List W → Store → Prop} (f : ∀ s l' L', P l' L' s → (∀ i, i < 7 → i ≠ 0 → i ≠ b → i ≠ c → s[i]? = st[i]?) → ∃ L0' L1', St s l' L0' L1') (L : List W) :
    ∀ s l' L', P l' L' s → (∀ i, i < 7 → i ≠ 0 → i ≠ b → i ≠ c → s[i]? = ((st.set b (.lst L)).set c (.lst L))[i]?) → ∃ L0' L1', St s l' L0' L1' := fun s l' L' p h => f s l' L' p fun i i1 i2 i3 i4 => by rw [h i i1 i2 i3 i4, List.getElem?_set_ne (Ne.symm i4), List.getElem?_set_ne (Ne.symm i3)]
theorem Hd.two {w : W} {us : List W} {st : Store} {b c : Nat} (h : Hd w us st) (hb : b < 7) (hc : c < 7) (L : List W) : Hd w us ((st.set b (.lst L)).set c (.lst L)) := by
  rcases h with h | ⟨h, e, h7, hh⟩
  · exact .inl h
  · exact .inr ⟨h, e, h7, by rw [List.getElem?_set_ne (by omega), List.getElem?_set_ne (by omega)]; exact hh⟩
theorem Dd.seth {st : Store} {l : List Int} {a b c h : Nat} {L : List W} {x : Cell} (d : Dd st l a b c L) (ha : a < 7) (hb : b < 7) (hc : c < 7) (hh : 7 ≤ h) : Dd (st.set h x) l a b c L :=
  ⟨⟨by rw [List.getElem?_set_ne (by omega)]; exact d.po.1, d.po.2⟩, ⟨by rw [List.getElem?_set_ne (by omega)]; exact d.nt.1, by rw [List.getElem?_set_ne (by omega)]; exact d.nt.2⟩, by rw [List.getElem?_set_ne (by omega)]; exact d.ls, d.gd, d.ab, d.ac, d.bc, d.a0, d.b0, d.c0⟩
theorem none_fl : ∃ (us : List W) (j : Int), us = [.str (cs "bid"), .int 0, .int 0, .int 0, .int 0] ∧ FlW 1 (.tup us) ∧ us[1]? = some (.int j) ∧ us.length < 20 :=
  ⟨_, 0, rfl, ⟨by simp, by
    intro x hx
    simp only [List.mem_cons, List.not_mem_nil, or_false] at hx
    rcases hx with rfl | rfl | rfl | rfl | rfl <;> first | exact fl_int | exact fl_cs⟩, rfl, by simp⟩
theorem fin_sm {st s1 : Store} {b c : Nat} {P : List Int → List W → Store → Prop} (f : ∀ s l' L', P l' L' s → (∀ i, i < 7 → i ≠ 0 → i ≠ b → i ≠ c → s[i]? = st[i]?) → ∃ L0' L1', St s l' L0' L1') (m : Sm st s1) :
    ∀ s l' L', P l' L' s → (∀ i, i < 7 → i ≠ 0 → i ≠ b → i ≠ c → s[i]? = s1[i]?) → ∃ L0' L1', St s l' L0' L1' := fun s l' L' p h => f s l' L' p fun i i1 i2 i3 i4 => by rw [h i i1 i2 i3 i4, m.at' _ i2]
theorem deed_ok {st : Store} {l : List Int} {L0 L1 : List W} {k : String} {i : Int} {Q : W → Store → Prop} {E : EX} (hk : k = "send" ∨ k = "take" ∨ k = "at") (h : St st l L0 L1) (i0 : 0 ≤ i) (i1 : i < 20)
    (q : ∀ s l' L0' L1', St s l' L0' L1' → Q (.bl true) s) : wE (f__law_deed [.ref 0, .im [.ref 1, .ref 3], .im [.ref 5, .ref 6], .str (cs k), .int i] st) Q E := by
  unfold f__law_deed
  try simp (config := { dsimp := false }) only [o_bl, o_slv, o_sll, o_op, o_if, o_d2, f_eq, f_ne, o_tup, o_len, o_bls, o_int, o_at, o_app, o_pop0, o_ins, o_cat, f_cnt, o_ty, o_isX, o_xf, o_cX, o_ran, o_sm, o_catchT, o_catchF, wE_oIf, gDivC, gModC, Option.isNone_none, Option.isNone_some, Option.bind_some, Bool.and_true, Bool.true_and, Bool.and_eq_true, decide_eq_true_eq, decide_eq_false_iff_not, v_catT, ln_sc, wE_ok, wE_exc, wE_bad, wE_bind, wS_nx, wS_rt, wS_bk, wS_ct, wS_exc, wS_bad, wS_bSeq, w_bNil, w_sBrk, w_sCnt, w_sIf, w_sRet, w_sRetN, w_sSet, w_sSetL, w_sExp, w_eBin, w_lBin, w_eUn, w_lUn, w_tOf, w_tAnd2, w_tOr2, w_tNot1, w_eAnd, w_eOr, w_eNot, w_eIf, w_eC, w_eTup, w_lLst, w_aNil, w_aCons, w_eIm, w_eAl, w_eCall, w_eFld, w_eM1, w_eM0, w_eM2, w_eMeth, w_ePrp, w_eNew, w_sFldW, w_sDel, w_sRaise1, v_add, v_addS, v_sub, v_mul, v_div, v_mod, v_lt, v_le, v_gt, v_ge, v_isN, v_notN, v_neg, v_int, v_intB, v_abs, v_max2, v_min2, v_eq, v_ne, v_tup, v_seqL, v_bls, v_ints, v_app, v_popAt, v_pop, v_ins, v_cat, v_cnt, w_eIsT, w_eVar, w_eIsX, w_eXf, w_eCallX, w_iRan1, w_iSeq, w_iOwn, w_lComp, w_sFor, w_for0, w_for1, w_gN, w_gSet, w_sTry, w_catch0, w_catch, w_aftX, w_sAsg, w_lCut, w_oNone, w_oSome, w_tYes, dat_cs, dat_non, dat_bl, dat_int, eqv_int, eqv_bool, eqv_cs, eqv_str, eqv_l00, eqv_l10, eqv_t00, eqv_t10, wE_mkFF, r_lstR, r_lstM, r_seqW, r_lstW, r_isL, r_insAt, r_tyW, r_srcW, r_dat, s_im, s_tup, s_lr, s_sc, l_im, l_lr, l_sc, m_im, m_lr, i_im, i_lr, i_sc, c_im, c_tup, c_sc, t_tup, t_im, t_int, t_bl, t_str, t_non, ln_ref, ln_tup, ln_im, ln_lr, ix_ref, ix_tup', ix_im, ix_lr, ix_sc, isN_ref, isN_non, isN_tup, isN_int, isN_bl, isN_str, isN_im, List.map_cons, List.map_nil, List.cons_append, List.nil_append, List.append_nil, List.getElem?_cons_zero, List.getElem?_cons_succ, List.set_cons_zero, List.set_cons_succ, List.replicate_succ, List.replicate_zero, List.length_cons, List.length_nil, List.lookup, il_int, il_bl, il_str, il_non, il_tup, il_im, il_sc, il_ref, il_cl, il_lr, ixN_zero, it_NoneType_bool, it_NoneType_int, it_NoneType_str, it_NoneType_tuple, it_NoneType_list, it_NoneType_dict, it_bool_bool, it_bool_int, it_bool_str, it_bool_tuple, it_bool_list, it_bool_dict, it_int_bool, it_int_int, it_int_str, it_int_tuple, it_int_list, it_int_dict, it_str_bool, it_str_int, it_str_str, it_str_tuple, it_str_list, it_str_dict, it_tuple_bool, it_tuple_int, it_tuple_str, it_tuple_tuple, it_tuple_list, it_tuple_dict, it_list_bool, it_list_int, it_list_str, it_list_tuple, it_list_list, it_list_dict, it_dict_bool, it_dict_int, it_dict_str, it_dict_tuple, it_dict_list, it_dict_dict, eq_self, Bool.not_true, Bool.not_false, decide_true, decide_false, true_and, and_true, Option.some.injEq, exists_eq_left, exists_eq_left', exists_eq_right, W.bl.injEq, W.int.injEq, Bool.false_eq_true, Bool.true_eq_false, reduceCtorEq, false_and, exists_false, and_self, forall_const, false_implies, true_implies, if_true, if_false, Int.reduceLE, Int.reduceLT, Int.reduceNeg, Nat.reduceLeDiff, Nat.reduceAdd, Nat.reduceSub, String.reduceEq, String.reduceBEq, String.reduceBNe, wE_mkFX, List.lookup_cons_self, beq_self_eq_true, Option.map_some, Option.map_none]
  refine drawA h.po (by omega) (by omega) fun r l1 s1 r0 r1 p1 m1 => ?_
  have h := h.sm m1 p1
  have h7 : 7 ≤ s1.length := (List.getElem?_eq_some_iff.mp h.l1).1
  try simp (config := { dsimp := false }) only [o_bl, o_slv, o_sll, o_op, o_if, o_d2, f_eq, f_ne, o_tup, o_len, o_bls, o_int, o_at, o_app, o_pop0, o_ins, o_cat, f_cnt, o_ty, o_isX, o_xf, o_cX, o_ran, o_sm, o_catchT, o_catchF, wE_oIf, gDivC, gModC, Option.isNone_none, Option.isNone_some, Option.bind_some, Bool.and_true, Bool.true_and, Bool.and_eq_true, decide_eq_true_eq, decide_eq_false_iff_not, v_catT, ln_sc, wE_ok, wE_exc, wE_bad, wE_bind, wS_nx, wS_rt, wS_bk, wS_ct, wS_exc, wS_bad, wS_bSeq, w_bNil, w_sBrk, w_sCnt, w_sIf, w_sRet, w_sRetN, w_sSet, w_sSetL, w_sExp, w_eBin, w_lBin, w_eUn, w_lUn, w_tOf, w_tAnd2, w_tOr2, w_tNot1, w_eAnd, w_eOr, w_eNot, w_eIf, w_eC, w_eTup, w_lLst, w_aNil, w_aCons, w_eIm, w_eAl, w_eCall, w_eFld, w_eM1, w_eM0, w_eM2, w_eMeth, w_ePrp, w_eNew, w_sFldW, w_sDel, w_sRaise1, v_add, v_addS, v_sub, v_mul, v_div, v_mod, v_lt, v_le, v_gt, v_ge, v_isN, v_notN, v_neg, v_int, v_intB, v_abs, v_max2, v_min2, v_eq, v_ne, v_tup, v_seqL, v_bls, v_ints, v_app, v_popAt, v_pop, v_ins, v_cat, v_cnt, w_eIsT, w_eVar, w_eIsX, w_eXf, w_eCallX, w_iRan1, w_iSeq, w_iOwn, w_lComp, w_sFor, w_for0, w_for1, w_gN, w_gSet, w_sTry, w_catch0, w_catch, w_aftX, w_sAsg, w_lCut, w_oNone, w_oSome, w_tYes, dat_cs, dat_non, dat_bl, dat_int, eqv_int, eqv_bool, eqv_cs, eqv_str, eqv_l00, eqv_l10, eqv_t00, eqv_t10, wE_mkFF, r_lstR, r_lstM, r_seqW, r_lstW, r_isL, r_insAt, r_tyW, r_srcW, r_dat, s_im, s_tup, s_lr, s_sc, l_im, l_lr, l_sc, m_im, m_lr, i_im, i_lr, i_sc, c_im, c_tup, c_sc, t_tup, t_im, t_int, t_bl, t_str, t_non, ln_ref, ln_tup, ln_im, ln_lr, ix_ref, ix_tup', ix_im, ix_lr, ix_sc, isN_ref, isN_non, isN_tup, isN_int, isN_bl, isN_str, isN_im, List.map_cons, List.map_nil, List.cons_append, List.nil_append, List.append_nil, List.getElem?_cons_zero, List.getElem?_cons_succ, List.set_cons_zero, List.set_cons_succ, List.replicate_succ, List.replicate_zero, List.length_cons, List.length_nil, List.lookup, il_int, il_bl, il_str, il_non, il_tup, il_im, il_sc, il_ref, il_cl, il_lr, ixN_zero, it_NoneType_bool, it_NoneType_int, it_NoneType_str, it_NoneType_tuple, it_NoneType_list, it_NoneType_dict, it_bool_bool, it_bool_int, it_bool_str, it_bool_tuple, it_bool_list, it_bool_dict, it_int_bool, it_int_int, it_int_str, it_int_tuple, it_int_list, it_int_dict, it_str_bool, it_str_int, it_str_str, it_str_tuple, it_str_list, it_str_dict, it_tuple_bool, it_tuple_int, it_tuple_str, it_tuple_tuple, it_tuple_list, it_tuple_dict, it_list_bool, it_list_int, it_list_str, it_list_tuple, it_list_list, it_list_dict, it_dict_bool, it_dict_int, it_dict_str, it_dict_tuple, it_dict_list, it_dict_dict, eq_self, Bool.not_true, Bool.not_false, decide_true, decide_false, true_and, and_true, Option.some.injEq, exists_eq_left, exists_eq_left', exists_eq_right, W.bl.injEq, W.int.injEq, Bool.false_eq_true, Bool.true_eq_false, reduceCtorEq, false_and, exists_false, and_self, forall_const, false_implies, true_implies, if_true, if_false, Int.reduceLE, Int.reduceLT, Int.reduceNeg, Nat.reduceLeDiff, Nat.reduceAdd, Nat.reduceSub, String.reduceEq, String.reduceBEq, String.reduceBNe, wE_mkFX, List.lookup_cons_self, beq_self_eq_true, Option.map_some, Option.map_none]
  obtain ⟨a, b, c, L, ea, ec, d, ha7, hb7, hc7, fin⟩ := pick h (w := (i / 7 + r) % 2) (by omega) (by omega)
  generalize (i / 7 + r) % 2 = who at *
  refine ⟨fun ek => letterA d.po fun w l2 s2 hw p2 m2 => ?_, fun ek => ?_⟩
  all_goals first
    | (obtain ⟨us, j, rfl, fl, uj, ul⟩ := letter_fl hw
       replace fin := fin_sm fin m2
       replace d := d.sm m2 p2
       rw [← m2.len] at h7)
    | (obtain ⟨us, j, eu, fl, uj, ul⟩ := none_fl
       rw [← eu]
       clear eu)
  all_goals
    try simp (config := { dsimp := false }) only [o_bl, o_slv, o_sll, o_op, o_if, o_d2, f_eq, f_ne, o_tup, o_len, o_bls, o_int, o_at, o_app, o_pop0, o_ins, o_cat, f_cnt, o_ty, o_isX, o_xf, o_cX, o_ran, o_sm, o_catchT, o_catchF, wE_oIf, gDivC, gModC, Option.isNone_none, Option.isNone_some, Option.bind_some, Bool.and_true, Bool.true_and, Bool.and_eq_true, decide_eq_true_eq, decide_eq_false_iff_not, v_catT, ln_sc, wE_ok, wE_exc, wE_bad, wE_bind, wS_nx, wS_rt, wS_bk, wS_ct, wS_exc, wS_bad, wS_bSeq, w_bNil, w_sBrk, w_sCnt, w_sIf, w_sRet, w_sRetN, w_sSet, w_sSetL, w_sExp, w_eBin, w_lBin, w_eUn, w_lUn, w_tOf, w_tAnd2, w_tOr2, w_tNot1, w_eAnd, w_eOr, w_eNot, w_eIf, w_eC, w_eTup, w_lLst, w_aNil, w_aCons, w_eIm, w_eAl, w_eCall, w_eFld, w_eM1, w_eM0, w_eM2, w_eMeth, w_ePrp, w_eNew, w_sFldW, w_sDel, w_sRaise1, v_add, v_addS, v_sub, v_mul, v_div, v_mod, v_lt, v_le, v_gt, v_ge, v_isN, v_notN, v_neg, v_int, v_intB, v_abs, v_max2, v_min2, v_eq, v_ne, v_tup, v_seqL, v_bls, v_ints, v_app, v_popAt, v_pop, v_ins, v_cat, v_cnt, w_eIsT, w_eVar, w_eIsX, w_eXf, w_eCallX, w_iRan1, w_iSeq, w_iOwn, w_lComp, w_sFor, w_for0, w_for1, w_gN, w_gSet, w_sTry, w_catch0, w_catch, w_aftX, w_sAsg, w_lCut, w_oNone, w_oSome, w_tYes, dat_cs, dat_non, dat_bl, dat_int, eqv_int, eqv_bool, eqv_cs, eqv_str, eqv_l00, eqv_l10, eqv_t00, eqv_t10, wE_mkFF, r_lstR, r_lstM, r_seqW, r_lstW, r_isL, r_insAt, r_tyW, r_srcW, r_dat, s_im, s_tup, s_lr, s_sc, l_im, l_lr, l_sc, m_im, m_lr, i_im, i_lr, i_sc, c_im, c_tup, c_sc, t_tup, t_im, t_int, t_bl, t_str, t_non, ln_ref, ln_tup, ln_im, ln_lr, ix_ref, ix_tup', ix_im, ix_lr, ix_sc, isN_ref, isN_non, isN_tup, isN_int, isN_bl, isN_str, isN_im, List.map_cons, List.map_nil, List.cons_append, List.nil_append, List.append_nil, List.getElem?_cons_zero, List.getElem?_cons_succ, List.set_cons_zero, List.set_cons_succ, List.replicate_succ, List.replicate_zero, List.length_cons, List.length_nil, List.lookup, il_int, il_bl, il_str, il_non, il_tup, il_im, il_sc, il_ref, il_cl, il_lr, ixN_zero, it_NoneType_bool, it_NoneType_int, it_NoneType_str, it_NoneType_tuple, it_NoneType_list, it_NoneType_dict, it_bool_bool, it_bool_int, it_bool_str, it_bool_tuple, it_bool_list, it_bool_dict, it_int_bool, it_int_int, it_int_str, it_int_tuple, it_int_list, it_int_dict, it_str_bool, it_str_int, it_str_str, it_str_tuple, it_str_list, it_str_dict, it_tuple_bool, it_tuple_int, it_tuple_str, it_tuple_tuple, it_tuple_list, it_tuple_dict, it_list_bool, it_list_int, it_list_str, it_list_tuple, it_list_list, it_list_dict, it_dict_bool, it_dict_int, it_dict_str, it_dict_tuple, it_dict_list, it_dict_dict, eq_self, Bool.not_true, Bool.not_false, decide_true, decide_false, true_and, and_true, Option.some.injEq, exists_eq_left, exists_eq_left', exists_eq_right, W.bl.injEq, W.int.injEq, Bool.false_eq_true, Bool.true_eq_false, reduceCtorEq, false_and, exists_false, and_self, forall_const, false_implies, true_implies, if_true, if_false, Int.reduceLE, Int.reduceLT, Int.reduceNeg, Nat.reduceLeDiff, Nat.reduceAdd, Nat.reduceSub, String.reduceEq, String.reduceBEq, String.reduceBNe, wE_mkFX, List.lookup_cons_self, beq_self_eq_true, Option.map_some, Option.map_none]
    refine drawA d.po (by omega) (by omega) fun r2 l3 s3 r20 r21 p3 m3 => ?_
    replace fin := fin_sm fin m3
    replace d := d.sm m3 p3
    rw [← m3.len] at h7
    try simp (config := { dsimp := false }) only [o_bl, o_slv, o_sll, o_op, o_if, o_d2, f_eq, f_ne, o_tup, o_len, o_bls, o_int, o_at, o_app, o_pop0, o_ins, o_cat, f_cnt, o_ty, o_isX, o_xf, o_cX, o_ran, o_sm, o_catchT, o_catchF, wE_oIf, gDivC, gModC, Option.isNone_none, Option.isNone_some, Option.bind_some, Bool.and_true, Bool.true_and, Bool.and_eq_true, decide_eq_true_eq, decide_eq_false_iff_not, v_catT, ln_sc, wE_ok, wE_exc, wE_bad, wE_bind, wS_nx, wS_rt, wS_bk, wS_ct, wS_exc, wS_bad, wS_bSeq, w_bNil, w_sBrk, w_sCnt, w_sIf, w_sRet, w_sRetN, w_sSet, w_sSetL, w_sExp, w_eBin, w_lBin, w_eUn, w_lUn, w_tOf, w_tAnd2, w_tOr2, w_tNot1, w_eAnd, w_eOr, w_eNot, w_eIf, w_eC, w_eTup, w_lLst, w_aNil, w_aCons, w_eIm, w_eAl, w_eCall, w_eFld, w_eM1, w_eM0, w_eM2, w_eMeth, w_ePrp, w_eNew, w_sFldW, w_sDel, w_sRaise1, v_add, v_addS, v_sub, v_mul, v_div, v_mod, v_lt, v_le, v_gt, v_ge, v_isN, v_notN, v_neg, v_int, v_intB, v_abs, v_max2, v_min2, v_eq, v_ne, v_tup, v_seqL, v_bls, v_ints, v_app, v_popAt, v_pop, v_ins, v_cat, v_cnt, w_eIsT, w_eVar, w_eIsX, w_eXf, w_eCallX, w_iRan1, w_iSeq, w_iOwn, w_lComp, w_sFor, w_for0, w_for1, w_gN, w_gSet, w_sTry, w_catch0, w_catch, w_aftX, w_sAsg, w_lCut, w_oNone, w_oSome, w_tYes, dat_cs, dat_non, dat_bl, dat_int, eqv_int, eqv_bool, eqv_cs, eqv_str, eqv_l00, eqv_l10, eqv_t00, eqv_t10, wE_mkFF, r_lstR, r_lstM, r_seqW, r_lstW, r_isL, r_insAt, r_tyW, r_srcW, r_dat, s_im, s_tup, s_lr, s_sc, l_im, l_lr, l_sc, m_im, m_lr, i_im, i_lr, i_sc, c_im, c_tup, c_sc, t_tup, t_im, t_int, t_bl, t_str, t_non, ln_ref, ln_tup, ln_im, ln_lr, ix_ref, ix_tup', ix_im, ix_lr, ix_sc, isN_ref, isN_non, isN_tup, isN_int, isN_bl, isN_str, isN_im, List.map_cons, List.map_nil, List.cons_append, List.nil_append, List.append_nil, List.getElem?_cons_zero, List.getElem?_cons_succ, List.set_cons_zero, List.set_cons_succ, List.replicate_succ, List.replicate_zero, List.length_cons, List.length_nil, List.lookup, il_int, il_bl, il_str, il_non, il_tup, il_im, il_sc, il_ref, il_cl, il_lr, ixN_zero, it_NoneType_bool, it_NoneType_int, it_NoneType_str, it_NoneType_tuple, it_NoneType_list, it_NoneType_dict, it_bool_bool, it_bool_int, it_bool_str, it_bool_tuple, it_bool_list, it_bool_dict, it_int_bool, it_int_int, it_int_str, it_int_tuple, it_int_list, it_int_dict, it_str_bool, it_str_int, it_str_str, it_str_tuple, it_str_list, it_str_dict, it_tuple_bool, it_tuple_int, it_tuple_str, it_tuple_tuple, it_tuple_list, it_tuple_dict, it_list_bool, it_list_int, it_list_str, it_list_tuple, it_list_list, it_list_dict, it_dict_bool, it_dict_int, it_dict_str, it_dict_tuple, it_dict_list, it_dict_dict, eq_self, Bool.not_true, Bool.not_false, decide_true, decide_false, true_and, and_true, Option.some.injEq, exists_eq_left, exists_eq_left', exists_eq_right, W.bl.injEq, W.int.injEq, Bool.false_eq_true, Bool.true_eq_false, reduceCtorEq, false_and, exists_false, and_self, forall_const, false_implies, true_implies, if_true, if_false, Int.reduceLE, Int.reduceLT, Int.reduceNeg, Nat.reduceLeDiff, Nat.reduceAdd, Nat.reduceSub, String.reduceEq, String.reduceBEq, String.reduceBNe, wE_mkFX, List.lookup_cons_self, beq_self_eq_true, Option.map_some, Option.map_none]
  all_goals
    refine ⟨fun e2 => ?_, fun e2 => ?_⟩
  all_goals first
    | (have e3 : r2 = 0 := e2
       have hd := Hd.push (us := us) h7
       replace fin := fin_push (us := us) fin h7
       replace d := d.push (us := us)
       generalize W.ref (List.length _) = w7 at *)
    | have hd := Hd.same (us := us) (s := s3)
  all_goals
    try simp (config := { dsimp := false }) only [o_bl, o_slv, o_sll, o_op, o_if, o_d2, f_eq, f_ne, o_tup, o_len, o_bls, o_int, o_at, o_app, o_pop0, o_ins, o_cat, f_cnt, o_ty, o_isX, o_xf, o_cX, o_ran, o_sm, o_catchT, o_catchF, wE_oIf, gDivC, gModC, Option.isNone_none, Option.isNone_some, Option.bind_some, Bool.and_true, Bool.true_and, Bool.and_eq_true, decide_eq_true_eq, decide_eq_false_iff_not, v_catT, ln_sc, wE_ok, wE_exc, wE_bad, wE_bind, wS_nx, wS_rt, wS_bk, wS_ct, wS_exc, wS_bad, wS_bSeq, w_bNil, w_sBrk, w_sCnt, w_sIf, w_sRet, w_sRetN, w_sSet, w_sSetL, w_sExp, w_eBin, w_lBin, w_eUn, w_lUn, w_tOf, w_tAnd2, w_tOr2, w_tNot1, w_eAnd, w_eOr, w_eNot, w_eIf, w_eC, w_eTup, w_lLst, w_aNil, w_aCons, w_eIm, w_eAl, w_eCall, w_eFld, w_eM1, w_eM0, w_eM2, w_eMeth, w_ePrp, w_eNew, w_sFldW, w_sDel, w_sRaise1, v_add, v_addS, v_sub, v_mul, v_div, v_mod, v_lt, v_le, v_gt, v_ge, v_isN, v_notN, v_neg, v_int, v_intB, v_abs, v_max2, v_min2, v_eq, v_ne, v_tup, v_seqL, v_bls, v_ints, v_app, v_popAt, v_pop, v_ins, v_cat, v_cnt, w_eIsT, w_eVar, w_eIsX, w_eXf, w_eCallX, w_iRan1, w_iSeq, w_iOwn, w_lComp, w_sFor, w_for0, w_for1, w_gN, w_gSet, w_sTry, w_catch0, w_catch, w_aftX, w_sAsg, w_lCut, w_oNone, w_oSome, w_tYes, dat_cs, dat_non, dat_bl, dat_int, eqv_int, eqv_bool, eqv_cs, eqv_str, eqv_l00, eqv_l10, eqv_t00, eqv_t10, wE_mkFF, r_lstR, r_lstM, r_seqW, r_lstW, r_isL, r_insAt, r_tyW, r_srcW, r_dat, s_im, s_tup, s_lr, s_sc, l_im, l_lr, l_sc, m_im, m_lr, i_im, i_lr, i_sc, c_im, c_tup, c_sc, t_tup, t_im, t_int, t_bl, t_str, t_non, ln_ref, ln_tup, ln_im, ln_lr, ix_ref, ix_tup', ix_im, ix_lr, ix_sc, isN_ref, isN_non, isN_tup, isN_int, isN_bl, isN_str, isN_im, List.map_cons, List.map_nil, List.cons_append, List.nil_append, List.append_nil, List.getElem?_cons_zero, List.getElem?_cons_succ, List.set_cons_zero, List.set_cons_succ, List.replicate_succ, List.replicate_zero, List.length_cons, List.length_nil, List.lookup, il_int, il_bl, il_str, il_non, il_tup, il_im, il_sc, il_ref, il_cl, il_lr, ixN_zero, it_NoneType_bool, it_NoneType_int, it_NoneType_str, it_NoneType_tuple, it_NoneType_list, it_NoneType_dict, it_bool_bool, it_bool_int, it_bool_str, it_bool_tuple, it_bool_list, it_bool_dict, it_int_bool, it_int_int, it_int_str, it_int_tuple, it_int_list, it_int_dict, it_str_bool, it_str_int, it_str_str, it_str_tuple, it_str_list, it_str_dict, it_tuple_bool, it_tuple_int, it_tuple_str, it_tuple_tuple, it_tuple_list, it_tuple_dict, it_list_bool, it_list_int, it_list_str, it_list_tuple, it_list_list, it_list_dict, it_dict_bool, it_dict_int, it_dict_str, it_dict_tuple, it_dict_list, it_dict_dict, eq_self, Bool.not_true, Bool.not_false, decide_true, decide_false, true_and, and_true, Option.some.injEq, exists_eq_left, exists_eq_left', exists_eq_right, W.bl.injEq, W.int.injEq, Bool.false_eq_true, Bool.true_eq_false, reduceCtorEq, false_and, exists_false, and_self, forall_const, false_implies, true_implies, if_true, if_false, Int.reduceLE, Int.reduceLT, Int.reduceNeg, Nat.reduceLeDiff, Nat.reduceAdd, Nat.reduceSub, String.reduceEq, String.reduceBEq, String.reduceBNe, wE_mkFX, List.lookup_cons_self, beq_self_eq_true, Option.map_some, Option.map_none, ec, d.ls]
    refine drawA d.po (by split <;> omega) (by have := d.gd.1; split <;> omega) fun r4 l4 s4 r40 r41 p4 m4 => ?_
    replace fin := fin_sm fin m4
    replace d := d.sm m4 p4
    replace hd := hd.sm m4
    try simp (config := { dsimp := false }) only [o_bl, o_slv, o_sll, o_op, o_if, o_d2, f_eq, f_ne, o_tup, o_len, o_bls, o_int, o_at, o_app, o_pop0, o_ins, o_cat, f_cnt, o_ty, o_isX, o_xf, o_cX, o_ran, o_sm, o_catchT, o_catchF, wE_oIf, gDivC, gModC, Option.isNone_none, Option.isNone_some, Option.bind_some, Bool.and_true, Bool.true_and, Bool.and_eq_true, decide_eq_true_eq, decide_eq_false_iff_not, v_catT, ln_sc, wE_ok, wE_exc, wE_bad, wE_bind, wS_nx, wS_rt, wS_bk, wS_ct, wS_exc, wS_bad, wS_bSeq, w_bNil, w_sBrk, w_sCnt, w_sIf, w_sRet, w_sRetN, w_sSet, w_sSetL, w_sExp, w_eBin, w_lBin, w_eUn, w_lUn, w_tOf, w_tAnd2, w_tOr2, w_tNot1, w_eAnd, w_eOr, w_eNot, w_eIf, w_eC, w_eTup, w_lLst, w_aNil, w_aCons, w_eIm, w_eAl, w_eCall, w_eFld, w_eM1, w_eM0, w_eM2, w_eMeth, w_ePrp, w_eNew, w_sFldW, w_sDel, w_sRaise1, v_add, v_addS, v_sub, v_mul, v_div, v_mod, v_lt, v_le, v_gt, v_ge, v_isN, v_notN, v_neg, v_int, v_intB, v_abs, v_max2, v_min2, v_eq, v_ne, v_tup, v_seqL, v_bls, v_ints, v_app, v_popAt, v_pop, v_ins, v_cat, v_cnt, w_eIsT, w_eVar, w_eIsX, w_eXf, w_eCallX, w_iRan1, w_iSeq, w_iOwn, w_lComp, w_sFor, w_for0, w_for1, w_gN, w_gSet, w_sTry, w_catch0, w_catch, w_aftX, w_sAsg, w_lCut, w_oNone, w_oSome, w_tYes, dat_cs, dat_non, dat_bl, dat_int, eqv_int, eqv_bool, eqv_cs, eqv_str, eqv_l00, eqv_l10, eqv_t00, eqv_t10, wE_mkFF, r_lstR, r_lstM, r_seqW, r_lstW, r_isL, r_insAt, r_tyW, r_srcW, r_dat, s_im, s_tup, s_lr, s_sc, l_im, l_lr, l_sc, m_im, m_lr, i_im, i_lr, i_sc, c_im, c_tup, c_sc, t_tup, t_im, t_int, t_bl, t_str, t_non, ln_ref, ln_tup, ln_im, ln_lr, ix_ref, ix_tup', ix_im, ix_lr, ix_sc, isN_ref, isN_non, isN_tup, isN_int, isN_bl, isN_str, isN_im, List.map_cons, List.map_nil, List.cons_append, List.nil_append, List.append_nil, List.getElem?_cons_zero, List.getElem?_cons_succ, List.set_cons_zero, List.set_cons_succ, List.replicate_succ, List.replicate_zero, List.length_cons, List.length_nil, List.lookup, il_int, il_bl, il_str, il_non, il_tup, il_im, il_sc, il_ref, il_cl, il_lr, ixN_zero, it_NoneType_bool, it_NoneType_int, it_NoneType_str, it_NoneType_tuple, it_NoneType_list, it_NoneType_dict, it_bool_bool, it_bool_int, it_bool_str, it_bool_tuple, it_bool_list, it_bool_dict, it_int_bool, it_int_int, it_int_str, it_int_tuple, it_int_list, it_int_dict, it_str_bool, it_str_int, it_str_str, it_str_tuple, it_str_list, it_str_dict, it_tuple_bool, it_tuple_int, it_tuple_str, it_tuple_tuple, it_tuple_list, it_tuple_dict, it_list_bool, it_list_int, it_list_str, it_list_tuple, it_list_list, it_list_dict, it_dict_bool, it_dict_int, it_dict_str, it_dict_tuple, it_dict_list, it_dict_dict, eq_self, Bool.not_true, Bool.not_false, decide_true, decide_false, true_and, and_true, Option.some.injEq, exists_eq_left, exists_eq_left', exists_eq_right, W.bl.injEq, W.int.injEq, Bool.false_eq_true, Bool.true_eq_false, reduceCtorEq, false_and, exists_false, and_self, forall_const, false_implies, true_implies, if_true, if_false, Int.reduceLE, Int.reduceLT, Int.reduceNeg, Nat.reduceLeDiff, Nat.reduceAdd, Nat.reduceSub, String.reduceEq, String.reduceBEq, String.reduceBNe, wE_mkFX, List.lookup_cons_self, beq_self_eq_true, Option.map_some, Option.map_none]
    refine drawA d.po (by omega) (by omega) fun r5 l5 s5 r50 r51 p5 m5 => ?_
    replace fin := fin_sm fin m5
    replace d := d.sm m5 p5
    replace hd := hd.sm m5
    try simp (config := { dsimp := false }) only [o_bl, o_slv, o_sll, o_op, o_if, o_d2, f_eq, f_ne, o_tup, o_len, o_bls, o_int, o_at, o_app, o_pop0, o_ins, o_cat, f_cnt, o_ty, o_isX, o_xf, o_cX, o_ran, o_sm, o_catchT, o_catchF, wE_oIf, gDivC, gModC, Option.isNone_none, Option.isNone_some, Option.bind_some, Bool.and_true, Bool.true_and, Bool.and_eq_true, decide_eq_true_eq, decide_eq_false_iff_not, v_catT, ln_sc, wE_ok, wE_exc, wE_bad, wE_bind, wS_nx, wS_rt, wS_bk, wS_ct, wS_exc, wS_bad, wS_bSeq, w_bNil, w_sBrk, w_sCnt, w_sIf, w_sRet, w_sRetN, w_sSet, w_sSetL, w_sExp, w_eBin, w_lBin, w_eUn, w_lUn, w_tOf, w_tAnd2, w_tOr2, w_tNot1, w_eAnd, w_eOr, w_eNot, w_eIf, w_eC, w_eTup, w_lLst, w_aNil, w_aCons, w_eIm, w_eAl, w_eCall, w_eFld, w_eM1, w_eM0, w_eM2, w_eMeth, w_ePrp, w_eNew, w_sFldW, w_sDel, w_sRaise1, v_add, v_addS, v_sub, v_mul, v_div, v_mod, v_lt, v_le, v_gt, v_ge, v_isN, v_notN, v_neg, v_int, v_intB, v_abs, v_max2, v_min2, v_eq, v_ne, v_tup, v_seqL, v_bls, v_ints, v_app, v_popAt, v_pop, v_ins, v_cat, v_cnt, w_eIsT, w_eVar, w_eIsX, w_eXf, w_eCallX, w_iRan1, w_iSeq, w_iOwn, w_lComp, w_sFor, w_for0, w_for1, w_gN, w_gSet, w_sTry, w_catch0, w_catch, w_aftX, w_sAsg, w_lCut, w_oNone, w_oSome, w_tYes, dat_cs, dat_non, dat_bl, dat_int, eqv_int, eqv_bool, eqv_cs, eqv_str, eqv_l00, eqv_l10, eqv_t00, eqv_t10, wE_mkFF, r_lstR, r_lstM, r_seqW, r_lstW, r_isL, r_insAt, r_tyW, r_srcW, r_dat, s_im, s_tup, s_lr, s_sc, l_im, l_lr, l_sc, m_im, m_lr, i_im, i_lr, i_sc, c_im, c_tup, c_sc, t_tup, t_im, t_int, t_bl, t_str, t_non, ln_ref, ln_tup, ln_im, ln_lr, ix_ref, ix_tup', ix_im, ix_lr, ix_sc, isN_ref, isN_non, isN_tup, isN_int, isN_bl, isN_str, isN_im, List.map_cons, List.map_nil, List.cons_append, List.nil_append, List.append_nil, List.getElem?_cons_zero, List.getElem?_cons_succ, List.set_cons_zero, List.set_cons_succ, List.replicate_succ, List.replicate_zero, List.length_cons, List.length_nil, List.lookup, il_int, il_bl, il_str, il_non, il_tup, il_im, il_sc, il_ref, il_cl, il_lr, ixN_zero, it_NoneType_bool, it_NoneType_int, it_NoneType_str, it_NoneType_tuple, it_NoneType_list, it_NoneType_dict, it_bool_bool, it_bool_int, it_bool_str, it_bool_tuple, it_bool_list, it_bool_dict, it_int_bool, it_int_int, it_int_str, it_int_tuple, it_int_list, it_int_dict, it_str_bool, it_str_int, it_str_str, it_str_tuple, it_str_list, it_str_dict, it_tuple_bool, it_tuple_int, it_tuple_str, it_tuple_tuple, it_tuple_list, it_tuple_dict, it_list_bool, it_list_int, it_list_str, it_list_tuple, it_list_list, it_list_dict, it_dict_bool, it_dict_int, it_dict_str, it_dict_tuple, it_dict_list, it_dict_dict, eq_self, Bool.not_true, Bool.not_false, decide_true, decide_false, true_and, and_true, Option.some.injEq, exists_eq_left, exists_eq_left', exists_eq_right, W.bl.injEq, W.int.injEq, Bool.false_eq_true, Bool.true_eq_false, reduceCtorEq, false_and, exists_false, and_self, forall_const, false_implies, true_implies, if_true, if_false, Int.reduceLE, Int.reduceLT, Int.reduceNeg, Nat.reduceLeDiff, Nat.reduceAdd, Nat.reduceSub, String.reduceEq, String.reduceBEq, String.reduceBNe, wE_mkFX, List.lookup_cons_self, beq_self_eq_true, Option.map_some, Option.map_none]
    refine ⟨fun e5 => ?_, fun e5 => ⟨fun e6 => ?_, fun e6 => ?_⟩⟩
  all_goals try
    try simp (config := { dsimp := false }) only [o_bl, o_slv, o_sll, o_op, o_if, o_d2, f_eq, f_ne, o_tup, o_len, o_bls, o_int, o_at, o_app, o_pop0, o_ins, o_cat, f_cnt, o_ty, o_isX, o_xf, o_cX, o_ran, o_sm, o_catchT, o_catchF, wE_oIf, gDivC, gModC, Option.isNone_none, Option.isNone_some, Option.bind_some, Bool.and_true, Bool.true_and, Bool.and_eq_true, decide_eq_true_eq, decide_eq_false_iff_not, v_catT, ln_sc, wE_ok, wE_exc, wE_bad, wE_bind, wS_nx, wS_rt, wS_bk, wS_ct, wS_exc, wS_bad, wS_bSeq, w_bNil, w_sBrk, w_sCnt, w_sIf, w_sRet, w_sRetN, w_sSet, w_sSetL, w_sExp, w_eBin, w_lBin, w_eUn, w_lUn, w_tOf, w_tAnd2, w_tOr2, w_tNot1, w_eAnd, w_eOr, w_eNot, w_eIf, w_eC, w_eTup, w_lLst, w_aNil, w_aCons, w_eIm, w_eAl, w_eCall, w_eFld, w_eM1, w_eM0, w_eM2, w_eMeth, w_ePrp, w_eNew, w_sFldW, w_sDel, w_sRaise1, v_add, v_addS, v_sub, v_mul, v_div, v_mod, v_lt, v_le, v_gt, v_ge, v_isN, v_notN, v_neg, v_int, v_intB, v_abs, v_max2, v_min2, v_eq, v_ne, v_tup, v_seqL, v_bls, v_ints, v_app, v_popAt, v_pop, v_ins, v_cat, v_cnt, w_eIsT, w_eVar, w_eIsX, w_eXf, w_eCallX, w_iRan1, w_iSeq, w_iOwn, w_lComp, w_sFor, w_for0, w_for1, w_gN, w_gSet, w_sTry, w_catch0, w_catch, w_aftX, w_sAsg, w_lCut, w_oNone, w_oSome, w_tYes, dat_cs, dat_non, dat_bl, dat_int, eqv_int, eqv_bool, eqv_cs, eqv_str, eqv_l00, eqv_l10, eqv_t00, eqv_t10, wE_mkFF, r_lstR, r_lstM, r_seqW, r_lstW, r_isL, r_insAt, r_tyW, r_srcW, r_dat, s_im, s_tup, s_lr, s_sc, l_im, l_lr, l_sc, m_im, m_lr, i_im, i_lr, i_sc, c_im, c_tup, c_sc, t_tup, t_im, t_int, t_bl, t_str, t_non, ln_ref, ln_tup, ln_im, ln_lr, ix_ref, ix_tup', ix_im, ix_lr, ix_sc, isN_ref, isN_non, isN_tup, isN_int, isN_bl, isN_str, isN_im, List.map_cons, List.map_nil, List.cons_append, List.nil_append, List.append_nil, List.getElem?_cons_zero, List.getElem?_cons_succ, List.set_cons_zero, List.set_cons_succ, List.replicate_succ, List.replicate_zero, List.length_cons, List.length_nil, List.lookup, il_int, il_bl, il_str, il_non, il_tup, il_im, il_sc, il_ref, il_cl, il_lr, ixN_zero, it_NoneType_bool, it_NoneType_int, it_NoneType_str, it_NoneType_tuple, it_NoneType_list, it_NoneType_dict, it_bool_bool, it_bool_int, it_bool_str, it_bool_tuple, it_bool_list, it_bool_dict, it_int_bool, it_int_int, it_int_str, it_int_tuple, it_int_list, it_int_dict, it_str_bool, it_str_int, it_str_str, it_str_tuple, it_str_list, it_str_dict, it_tuple_bool, it_tuple_int, it_tuple_str, it_tuple_tuple, it_tuple_list, it_tuple_dict, it_list_bool, it_list_int, it_list_str, it_list_tuple, it_list_list, it_list_dict, it_dict_bool, it_dict_int, it_dict_str, it_dict_tuple, it_dict_list, it_dict_dict, eq_self, Bool.not_true, Bool.not_false, decide_true, decide_false, true_and, and_true, Option.some.injEq, exists_eq_left, exists_eq_left', exists_eq_right, W.bl.injEq, W.int.injEq, Bool.false_eq_true, Bool.true_eq_false, reduceCtorEq, false_and, exists_false, and_self, forall_const, false_implies, true_implies, if_true, if_false, Int.reduceLE, Int.reduceLT, Int.reduceNeg, Nat.reduceLeDiff, Nat.reduceAdd, Nat.reduceSub, String.reduceEq, String.reduceBEq, String.reduceBNe, wE_mkFX, List.lookup_cons_self, beq_self_eq_true, Option.map_some, Option.map_none]
    refine drawA d.po (by omega) (by omega) fun r6 l6 s6 r60 r61 p6 m6 => ?_
    replace fin := fin_sm fin m6
    replace d := d.sm m6 p6
    replace hd := hd.sm m6
    try simp (config := { dsimp := false }) only [o_bl, o_slv, o_sll, o_op, o_if, o_d2, f_eq, f_ne, o_tup, o_len, o_bls, o_int, o_at, o_app, o_pop0, o_ins, o_cat, f_cnt, o_ty, o_isX, o_xf, o_cX, o_ran, o_sm, o_catchT, o_catchF, wE_oIf, gDivC, gModC, Option.isNone_none, Option.isNone_some, Option.bind_some, Bool.and_true, Bool.true_and, Bool.and_eq_true, decide_eq_true_eq, decide_eq_false_iff_not, v_catT, ln_sc, wE_ok, wE_exc, wE_bad, wE_bind, wS_nx, wS_rt, wS_bk, wS_ct, wS_exc, wS_bad, wS_bSeq, w_bNil, w_sBrk, w_sCnt, w_sIf, w_sRet, w_sRetN, w_sSet, w_sSetL, w_sExp, w_eBin, w_lBin, w_eUn, w_lUn, w_tOf, w_tAnd2, w_tOr2, w_tNot1, w_eAnd, w_eOr, w_eNot, w_eIf, w_eC, w_eTup, w_lLst, w_aNil, w_aCons, w_eIm, w_eAl, w_eCall, w_eFld, w_eM1, w_eM0, w_eM2, w_eMeth, w_ePrp, w_eNew, w_sFldW, w_sDel, w_sRaise1, v_add, v_addS, v_sub, v_mul, v_div, v_mod, v_lt, v_le, v_gt, v_ge, v_isN, v_notN, v_neg, v_int, v_intB, v_abs, v_max2, v_min2, v_eq, v_ne, v_tup, v_seqL, v_bls, v_ints, v_app, v_popAt, v_pop, v_ins, v_cat, v_cnt, w_eIsT, w_eVar, w_eIsX, w_eXf, w_eCallX, w_iRan1, w_iSeq, w_iOwn, w_lComp, w_sFor, w_for0, w_for1, w_gN, w_gSet, w_sTry, w_catch0, w_catch, w_aftX, w_sAsg, w_lCut, w_oNone, w_oSome, w_tYes, dat_cs, dat_non, dat_bl, dat_int, eqv_int, eqv_bool, eqv_cs, eqv_str, eqv_l00, eqv_l10, eqv_t00, eqv_t10, wE_mkFF, r_lstR, r_lstM, r_seqW, r_lstW, r_isL, r_insAt, r_tyW, r_srcW, r_dat, s_im, s_tup, s_lr, s_sc, l_im, l_lr, l_sc, m_im, m_lr, i_im, i_lr, i_sc, c_im, c_tup, c_sc, t_tup, t_im, t_int, t_bl, t_str, t_non, ln_ref, ln_tup, ln_im, ln_lr, ix_ref, ix_tup', ix_im, ix_lr, ix_sc, isN_ref, isN_non, isN_tup, isN_int, isN_bl, isN_str, isN_im, List.map_cons, List.map_nil, List.cons_append, List.nil_append, List.append_nil, List.getElem?_cons_zero, List.getElem?_cons_succ, List.set_cons_zero, List.set_cons_succ, List.replicate_succ, List.replicate_zero, List.length_cons, List.length_nil, List.lookup, il_int, il_bl, il_str, il_non, il_tup, il_im, il_sc, il_ref, il_cl, il_lr, ixN_zero, it_NoneType_bool, it_NoneType_int, it_NoneType_str, it_NoneType_tuple, it_NoneType_list, it_NoneType_dict, it_bool_bool, it_bool_int, it_bool_str, it_bool_tuple, it_bool_list, it_bool_dict, it_int_bool, it_int_int, it_int_str, it_int_tuple, it_int_list, it_int_dict, it_str_bool, it_str_int, it_str_str, it_str_tuple, it_str_list, it_str_dict, it_tuple_bool, it_tuple_int, it_tuple_str, it_tuple_tuple, it_tuple_list, it_tuple_dict, it_list_bool, it_list_int, it_list_str, it_list_tuple, it_list_list, it_list_dict, it_dict_bool, it_dict_int, it_dict_str, it_dict_tuple, it_dict_list, it_dict_dict, eq_self, Bool.not_true, Bool.not_false, decide_true, decide_false, true_and, and_true, Option.some.injEq, exists_eq_left, exists_eq_left', exists_eq_right, W.bl.injEq, W.int.injEq, Bool.false_eq_true, Bool.true_eq_false, reduceCtorEq, false_and, exists_false, and_self, forall_const, false_implies, true_implies, if_true, if_false, Int.reduceLE, Int.reduceLT, Int.reduceNeg, Nat.reduceLeDiff, Nat.reduceAdd, Nat.reduceSub, String.reduceEq, String.reduceBEq, String.reduceBNe, wE_mkFX, List.lookup_cons_self, beq_self_eq_true, Option.map_some, Option.map_none]
  all_goals try refine ⟨fun e => absurd e (by omega), fun _ => ?_⟩
  all_goals
    try simp (config := { dsimp := false }) only [o_bl, o_slv, o_sll, o_op, o_if, o_d2, f_eq, f_ne, o_tup, o_len, o_bls, o_int, o_at, o_app, o_pop0, o_ins, o_cat, f_cnt, o_ty, o_isX, o_xf, o_cX, o_ran, o_sm, o_catchT, o_catchF, wE_oIf, gDivC, gModC, Option.isNone_none, Option.isNone_some, Option.bind_some, Bool.and_true, Bool.true_and, Bool.and_eq_true, decide_eq_true_eq, decide_eq_false_iff_not, v_catT, ln_sc, wE_ok, wE_exc, wE_bad, wE_bind, wS_nx, wS_rt, wS_bk, wS_ct, wS_exc, wS_bad, wS_bSeq, w_bNil, w_sBrk, w_sCnt, w_sIf, w_sRet, w_sRetN, w_sSet, w_sSetL, w_sExp, w_eBin, w_lBin, w_eUn, w_lUn, w_tOf, w_tAnd2, w_tOr2, w_tNot1, w_eAnd, w_eOr, w_eNot, w_eIf, w_eC, w_eTup, w_lLst, w_aNil, w_aCons, w_eIm, w_eAl, w_eCall, w_eFld, w_eM1, w_eM0, w_eM2, w_eMeth, w_ePrp, w_eNew, w_sFldW, w_sDel, w_sRaise1, v_add, v_addS, v_sub, v_mul, v_div, v_mod, v_lt, v_le, v_gt, v_ge, v_isN, v_notN, v_neg, v_int, v_intB, v_abs, v_max2, v_min2, v_eq, v_ne, v_tup, v_seqL, v_bls, v_ints, v_app, v_popAt, v_pop, v_ins, v_cat, v_cnt, w_eIsT, w_eVar, w_eIsX, w_eXf, w_eCallX, w_iRan1, w_iSeq, w_iOwn, w_lComp, w_sFor, w_for0, w_for1, w_gN, w_gSet, w_sTry, w_catch0, w_catch, w_aftX, w_sAsg, w_lCut, w_oNone, w_oSome, w_tYes, dat_cs, dat_non, dat_bl, dat_int, eqv_int, eqv_bool, eqv_cs, eqv_str, eqv_l00, eqv_l10, eqv_t00, eqv_t10, wE_mkFF, r_lstR, r_lstM, r_seqW, r_lstW, r_isL, r_insAt, r_tyW, r_srcW, r_dat, s_im, s_tup, s_lr, s_sc, l_im, l_lr, l_sc, m_im, m_lr, i_im, i_lr, i_sc, c_im, c_tup, c_sc, t_tup, t_im, t_int, t_bl, t_str, t_non, ln_ref, ln_tup, ln_im, ln_lr, ix_ref, ix_tup', ix_im, ix_lr, ix_sc, isN_ref, isN_non, isN_tup, isN_int, isN_bl, isN_str, isN_im, List.map_cons, List.map_nil, List.cons_append, List.nil_append, List.append_nil, List.getElem?_cons_zero, List.getElem?_cons_succ, List.set_cons_zero, List.set_cons_succ, List.replicate_succ, List.replicate_zero, List.length_cons, List.length_nil, List.lookup, il_int, il_bl, il_str, il_non, il_tup, il_im, il_sc, il_ref, il_cl, il_lr, ixN_zero, it_NoneType_bool, it_NoneType_int, it_NoneType_str, it_NoneType_tuple, it_NoneType_list, it_NoneType_dict, it_bool_bool, it_bool_int, it_bool_str, it_bool_tuple, it_bool_list, it_bool_dict, it_int_bool, it_int_int, it_int_str, it_int_tuple, it_int_list, it_int_dict, it_str_bool, it_str_int, it_str_str, it_str_tuple, it_str_list, it_str_dict, it_tuple_bool, it_tuple_int, it_tuple_str, it_tuple_tuple, it_tuple_list, it_tuple_dict, it_list_bool, it_list_int, it_list_str, it_list_tuple, it_list_list, it_list_dict, it_dict_bool, it_dict_int, it_dict_str, it_dict_tuple, it_dict_list, it_dict_dict, eq_self, Bool.not_true, Bool.not_false, decide_true, decide_false, true_and, and_true, Option.some.injEq, exists_eq_left, exists_eq_left', exists_eq_right, W.bl.injEq, W.int.injEq, Bool.false_eq_true, Bool.true_eq_false, reduceCtorEq, false_and, exists_false, and_self, forall_const, false_implies, true_implies, if_true, if_false, Int.reduceLE, Int.reduceLT, Int.reduceNeg, Nat.reduceLeDiff, Nat.reduceAdd, Nat.reduceSub, String.reduceEq, String.reduceBEq, String.reduceBNe, wE_mkFX, List.lookup_cons_self, beq_self_eq_true, Option.map_some, Option.map_none, ea, hd.seq.2]
    refine done_ok hk d.nt d.gd.1 d.gd.lr hd.seq.1 hd.seq.2 ?_
    generalize hD : deed k _ (W.tup us) L = D
    have gf : FlW 7 D.1 ∧ Good D.2 := hD ▸ deed_fl fl d.gd
    try simp (config := { dsimp := false }) only [o_bl, o_slv, o_sll, o_op, o_if, o_d2, f_eq, f_ne, o_tup, o_len, o_bls, o_int, o_at, o_app, o_pop0, o_ins, o_cat, f_cnt, o_ty, o_isX, o_xf, o_cX, o_ran, o_sm, o_catchT, o_catchF, wE_oIf, gDivC, gModC, Option.isNone_none, Option.isNone_some, Option.bind_some, Bool.and_true, Bool.true_and, Bool.and_eq_true, decide_eq_true_eq, decide_eq_false_iff_not, v_catT, ln_sc, wE_ok, wE_exc, wE_bad, wE_bind, wS_nx, wS_rt, wS_bk, wS_ct, wS_exc, wS_bad, wS_bSeq, w_bNil, w_sBrk, w_sCnt, w_sIf, w_sRet, w_sRetN, w_sSet, w_sSetL, w_sExp, w_eBin, w_lBin, w_eUn, w_lUn, w_tOf, w_tAnd2, w_tOr2, w_tNot1, w_eAnd, w_eOr, w_eNot, w_eIf, w_eC, w_eTup, w_lLst, w_aNil, w_aCons, w_eIm, w_eAl, w_eCall, w_eFld, w_eM1, w_eM0, w_eM2, w_eMeth, w_ePrp, w_eNew, w_sFldW, w_sDel, w_sRaise1, v_add, v_addS, v_sub, v_mul, v_div, v_mod, v_lt, v_le, v_gt, v_ge, v_isN, v_notN, v_neg, v_int, v_intB, v_abs, v_max2, v_min2, v_eq, v_ne, v_tup, v_seqL, v_bls, v_ints, v_app, v_popAt, v_pop, v_ins, v_cat, v_cnt, w_eIsT, w_eVar, w_eIsX, w_eXf, w_eCallX, w_iRan1, w_iSeq, w_iOwn, w_lComp, w_sFor, w_for0, w_for1, w_gN, w_gSet, w_sTry, w_catch0, w_catch, w_aftX, w_sAsg, w_lCut, w_oNone, w_oSome, w_tYes, dat_cs, dat_non, dat_bl, dat_int, eqv_int, eqv_bool, eqv_cs, eqv_str, eqv_l00, eqv_l10, eqv_t00, eqv_t10, wE_mkFF, r_lstR, r_lstM, r_seqW, r_lstW, r_isL, r_insAt, r_tyW, r_srcW, r_dat, s_im, s_tup, s_lr, s_sc, l_im, l_lr, l_sc, m_im, m_lr, i_im, i_lr, i_sc, c_im, c_tup, c_sc, t_tup, t_im, t_int, t_bl, t_str, t_non, ln_ref, ln_tup, ln_im, ln_lr, ix_ref, ix_tup', ix_im, ix_lr, ix_sc, isN_ref, isN_non, isN_tup, isN_int, isN_bl, isN_str, isN_im, List.map_cons, List.map_nil, List.cons_append, List.nil_append, List.append_nil, List.getElem?_cons_zero, List.getElem?_cons_succ, List.set_cons_zero, List.set_cons_succ, List.replicate_succ, List.replicate_zero, List.length_cons, List.length_nil, List.lookup, il_int, il_bl, il_str, il_non, il_tup, il_im, il_sc, il_ref, il_cl, il_lr, ixN_zero, it_NoneType_bool, it_NoneType_int, it_NoneType_str, it_NoneType_tuple, it_NoneType_list, it_NoneType_dict, it_bool_bool, it_bool_int, it_bool_str, it_bool_tuple, it_bool_list, it_bool_dict, it_int_bool, it_int_int, it_int_str, it_int_tuple, it_int_list, it_int_dict, it_str_bool, it_str_int, it_str_str, it_str_tuple, it_str_list, it_str_dict, it_tuple_bool, it_tuple_int, it_tuple_str, it_tuple_tuple, it_tuple_list, it_tuple_dict, it_list_bool, it_list_int, it_list_str, it_list_tuple, it_list_list, it_list_dict, it_dict_bool, it_dict_int, it_dict_str, it_dict_tuple, it_dict_list, it_dict_dict, eq_self, Bool.not_true, Bool.not_false, decide_true, decide_false, true_and, and_true, Option.some.injEq, exists_eq_left, exists_eq_left', exists_eq_right, W.bl.injEq, W.int.injEq, Bool.false_eq_true, Bool.true_eq_false, reduceCtorEq, false_and, exists_false, and_self, forall_const, false_implies, true_implies, if_true, if_false, Int.reduceLE, Int.reduceLT, Int.reduceNeg, Nat.reduceLeDiff, Nat.reduceAdd, Nat.reduceSub, String.reduceEq, String.reduceBEq, String.reduceBNe, wE_mkFX, List.lookup_cons_self, beq_self_eq_true, Option.map_some, Option.map_none, isLr_fl gf.1, ec]
    refine due_ok hk (by rw [List.getElem?_set_ne d.bc]; exact d.ls) d.gd.1 d.gd.lr rfl ?_
    rw [hD]
    try simp (config := { dsimp := false }) only [o_bl, o_slv, o_sll, o_op, o_if, o_d2, f_eq, f_ne, o_tup, o_len, o_bls, o_int, o_at, o_app, o_pop0, o_ins, o_cat, f_cnt, o_ty, o_isX, o_xf, o_cX, o_ran, o_sm, o_catchT, o_catchF, wE_oIf, gDivC, gModC, Option.isNone_none, Option.isNone_some, Option.bind_some, Bool.and_true, Bool.true_and, Bool.and_eq_true, decide_eq_true_eq, decide_eq_false_iff_not, v_catT, ln_sc, wE_ok, wE_exc, wE_bad, wE_bind, wS_nx, wS_rt, wS_bk, wS_ct, wS_exc, wS_bad, wS_bSeq, w_bNil, w_sBrk, w_sCnt, w_sIf, w_sRet, w_sRetN, w_sSet, w_sSetL, w_sExp, w_eBin, w_lBin, w_eUn, w_lUn, w_tOf, w_tAnd2, w_tOr2, w_tNot1, w_eAnd, w_eOr, w_eNot, w_eIf, w_eC, w_eTup, w_lLst, w_aNil, w_aCons, w_eIm, w_eAl, w_eCall, w_eFld, w_eM1, w_eM0, w_eM2, w_eMeth, w_ePrp, w_eNew, w_sFldW, w_sDel, w_sRaise1, v_add, v_addS, v_sub, v_mul, v_div, v_mod, v_lt, v_le, v_gt, v_ge, v_isN, v_notN, v_neg, v_int, v_intB, v_abs, v_max2, v_min2, v_eq, v_ne, v_tup, v_seqL, v_bls, v_ints, v_app, v_popAt, v_pop, v_ins, v_cat, v_cnt, w_eIsT, w_eVar, w_eIsX, w_eXf, w_eCallX, w_iRan1, w_iSeq, w_iOwn, w_lComp, w_sFor, w_for0, w_for1, w_gN, w_gSet, w_sTry, w_catch0, w_catch, w_aftX, w_sAsg, w_lCut, w_oNone, w_oSome, w_tYes, dat_cs, dat_non, dat_bl, dat_int, eqv_int, eqv_bool, eqv_cs, eqv_str, eqv_l00, eqv_l10, eqv_t00, eqv_t10, wE_mkFF, r_lstR, r_lstM, r_seqW, r_lstW, r_isL, r_insAt, r_tyW, r_srcW, r_dat, s_im, s_tup, s_lr, s_sc, l_im, l_lr, l_sc, m_im, m_lr, i_im, i_lr, i_sc, c_im, c_tup, c_sc, t_tup, t_im, t_int, t_bl, t_str, t_non, ln_ref, ln_tup, ln_im, ln_lr, ix_ref, ix_tup', ix_im, ix_lr, ix_sc, isN_ref, isN_non, isN_tup, isN_int, isN_bl, isN_str, isN_im, List.map_cons, List.map_nil, List.cons_append, List.nil_append, List.append_nil, List.getElem?_cons_zero, List.getElem?_cons_succ, List.set_cons_zero, List.set_cons_succ, List.replicate_succ, List.replicate_zero, List.length_cons, List.length_nil, List.lookup, il_int, il_bl, il_str, il_non, il_tup, il_im, il_sc, il_ref, il_cl, il_lr, ixN_zero, it_NoneType_bool, it_NoneType_int, it_NoneType_str, it_NoneType_tuple, it_NoneType_list, it_NoneType_dict, it_bool_bool, it_bool_int, it_bool_str, it_bool_tuple, it_bool_list, it_bool_dict, it_int_bool, it_int_int, it_int_str, it_int_tuple, it_int_list, it_int_dict, it_str_bool, it_str_int, it_str_str, it_str_tuple, it_str_list, it_str_dict, it_tuple_bool, it_tuple_int, it_tuple_str, it_tuple_tuple, it_tuple_list, it_tuple_dict, it_list_bool, it_list_int, it_list_str, it_list_tuple, it_list_list, it_list_dict, it_dict_bool, it_dict_int, it_dict_str, it_dict_tuple, it_dict_list, it_dict_dict, eq_self, Bool.not_true, Bool.not_false, decide_true, decide_false, true_and, and_true, Option.some.injEq, exists_eq_left, exists_eq_left', exists_eq_right, W.bl.injEq, W.int.injEq, Bool.false_eq_true, Bool.true_eq_false, reduceCtorEq, false_and, exists_false, and_self, forall_const, false_implies, true_implies, if_true, if_false, Int.reduceLE, Int.reduceLT, Int.reduceNeg, Nat.reduceLeDiff, Nat.reduceAdd, Nat.reduceSub, String.reduceEq, String.reduceBEq, String.reduceBNe, wE_mkFX, List.lookup_cons_self, beq_self_eq_true, Option.map_some, Option.map_none, isLr_fl gf.1]
    refine same_ok 7 gf.1 ?_
    replace fin := fin_two fin D.2
    replace d := d.two gf.2
    replace hd := hd.two hb7 hc7 D.2
    generalize (List.set _ b _).set c _ = sT at *
    obtain ⟨ds, dd, dc⟩ := fls_dat (st := sT) (n := 0) (k := 15) fl.2 (by omega)
    have dr : PyData.eqv (.list ds) (.list ds) = true := eqv_refl _ (by simpa [PyData.canLay0] using dc)
    rcases hd with e7 | ⟨h, e7, hh, hc⟩
    · try subst e7
      try simp (config := { dsimp := false }) only [o_bl, o_slv, o_sll, o_op, o_if, o_d2, f_eq, f_ne, o_tup, o_len, o_bls, o_int, o_at, o_app, o_pop0, o_ins, o_cat, f_cnt, o_ty, o_isX, o_xf, o_cX, o_ran, o_sm, o_catchT, o_catchF, wE_oIf, gDivC, gModC, Option.isNone_none, Option.isNone_some, Option.bind_some, Bool.and_true, Bool.true_and, Bool.and_eq_true, decide_eq_true_eq, decide_eq_false_iff_not, v_catT, ln_sc, wE_ok, wE_exc, wE_bad, wE_bind, wS_nx, wS_rt, wS_bk, wS_ct, wS_exc, wS_bad, wS_bSeq, w_bNil, w_sBrk, w_sCnt, w_sIf, w_sRet, w_sRetN, w_sSet, w_sSetL, w_sExp, w_eBin, w_lBin, w_eUn, w_lUn, w_tOf, w_tAnd2, w_tOr2, w_tNot1, w_eAnd, w_eOr, w_eNot, w_eIf, w_eC, w_eTup, w_lLst, w_aNil, w_aCons, w_eIm, w_eAl, w_eCall, w_eFld, w_eM1, w_eM0, w_eM2, w_eMeth, w_ePrp, w_eNew, w_sFldW, w_sDel, w_sRaise1, v_add, v_addS, v_sub, v_mul, v_div, v_mod, v_lt, v_le, v_gt, v_ge, v_isN, v_notN, v_neg, v_int, v_intB, v_abs, v_max2, v_min2, v_eq, v_ne, v_tup, v_seqL, v_bls, v_ints, v_app, v_popAt, v_pop, v_ins, v_cat, v_cnt, w_eIsT, w_eVar, w_eIsX, w_eXf, w_eCallX, w_iRan1, w_iSeq, w_iOwn, w_lComp, w_sFor, w_for0, w_for1, w_gN, w_gSet, w_sTry, w_catch0, w_catch, w_aftX, w_sAsg, w_lCut, w_oNone, w_oSome, w_tYes, dat_cs, dat_non, dat_bl, dat_int, eqv_int, eqv_bool, eqv_cs, eqv_str, eqv_l00, eqv_l10, eqv_t00, eqv_t10, wE_mkFF, r_lstR, r_lstM, r_seqW, r_lstW, r_isL, r_insAt, r_tyW, r_srcW, r_dat, s_im, s_tup, s_lr, s_sc, l_im, l_lr, l_sc, m_im, m_lr, i_im, i_lr, i_sc, c_im, c_tup, c_sc, t_tup, t_im, t_int, t_bl, t_str, t_non, ln_ref, ln_tup, ln_im, ln_lr, ix_ref, ix_tup', ix_im, ix_lr, ix_sc, isN_ref, isN_non, isN_tup, isN_int, isN_bl, isN_str, isN_im, List.map_cons, List.map_nil, List.cons_append, List.nil_append, List.append_nil, List.getElem?_cons_zero, List.getElem?_cons_succ, List.set_cons_zero, List.set_cons_succ, List.replicate_succ, List.replicate_zero, List.length_cons, List.length_nil, List.lookup, il_int, il_bl, il_str, il_non, il_tup, il_im, il_sc, il_ref, il_cl, il_lr, ixN_zero, it_NoneType_bool, it_NoneType_int, it_NoneType_str, it_NoneType_tuple, it_NoneType_list, it_NoneType_dict, it_bool_bool, it_bool_int, it_bool_str, it_bool_tuple, it_bool_list, it_bool_dict, it_int_bool, it_int_int, it_int_str, it_int_tuple, it_int_list, it_int_dict, it_str_bool, it_str_int, it_str_str, it_str_tuple, it_str_list, it_str_dict, it_tuple_bool, it_tuple_int, it_tuple_str, it_tuple_tuple, it_tuple_list, it_tuple_dict, it_list_bool, it_list_int, it_list_str, it_list_tuple, it_list_list, it_list_dict, it_dict_bool, it_dict_int, it_dict_str, it_dict_tuple, it_dict_list, it_dict_dict, eq_self, Bool.not_true, Bool.not_false, decide_true, decide_false, true_and, and_true, Option.some.injEq, exists_eq_left, exists_eq_left', exists_eq_right, W.bl.injEq, W.int.injEq, Bool.false_eq_true, Bool.true_eq_false, reduceCtorEq, false_and, exists_false, and_self, forall_const, false_implies, true_implies, if_true, if_false, Int.reduceLE, Int.reduceLT, Int.reduceNeg, Nat.reduceLeDiff, Nat.reduceAdd, Nat.reduceSub, String.reduceEq, String.reduceBEq, String.reduceBNe, wE_mkFX, List.lookup_cons_self, beq_self_eq_true, Option.map_some, Option.map_none]
      obtain ⟨L0', L1', hS⟩ := fin _ _ _ d fun _ _ _ _ _ => rfl
      refine seen_ok hS ?_
      exact ⟨rfl, q _ _ _ _ hS⟩
    · first
      | (cases e7; done)
      | (subst e7
         have hl := (List.getElem?_eq_some_iff.mp hc).1
         have h1 : (1 : Int) < us.length := by have := (List.getElem?_eq_some_iff.mp uj).1; omega
         have ha : atW us 1 = some (.int j) := by
           unfold atW
           rw [ixN_of (by omega) h1]
           exact uj
         try simp (config := { dsimp := false }) only [o_bl, o_slv, o_sll, o_op, o_if, o_d2, f_eq, f_ne, o_tup, o_len, o_bls, o_int, o_at, o_app, o_pop0, o_ins, o_cat, f_cnt, o_ty, o_isX, o_xf, o_cX, o_ran, o_sm, o_catchT, o_catchF, wE_oIf, gDivC, gModC, Option.isNone_none, Option.isNone_some, Option.bind_some, Bool.and_true, Bool.true_and, Bool.and_eq_true, decide_eq_true_eq, decide_eq_false_iff_not, v_catT, ln_sc, wE_ok, wE_exc, wE_bad, wE_bind, wS_nx, wS_rt, wS_bk, wS_ct, wS_exc, wS_bad, wS_bSeq, w_bNil, w_sBrk, w_sCnt, w_sIf, w_sRet, w_sRetN, w_sSet, w_sSetL, w_sExp, w_eBin, w_lBin, w_eUn, w_lUn, w_tOf, w_tAnd2, w_tOr2, w_tNot1, w_eAnd, w_eOr, w_eNot, w_eIf, w_eC, w_eTup, w_lLst, w_aNil, w_aCons, w_eIm, w_eAl, w_eCall, w_eFld, w_eM1, w_eM0, w_eM2, w_eMeth, w_ePrp, w_eNew, w_sFldW, w_sDel, w_sRaise1, v_add, v_addS, v_sub, v_mul, v_div, v_mod, v_lt, v_le, v_gt, v_ge, v_isN, v_notN, v_neg, v_int, v_intB, v_abs, v_max2, v_min2, v_eq, v_ne, v_tup, v_seqL, v_bls, v_ints, v_app, v_popAt, v_pop, v_ins, v_cat, v_cnt, w_eIsT, w_eVar, w_eIsX, w_eXf, w_eCallX, w_iRan1, w_iSeq, w_iOwn, w_lComp, w_sFor, w_for0, w_for1, w_gN, w_gSet, w_sTry, w_catch0, w_catch, w_aftX, w_sAsg, w_lCut, w_oNone, w_oSome, w_tYes, dat_cs, dat_non, dat_bl, dat_int, eqv_int, eqv_bool, eqv_cs, eqv_str, eqv_l00, eqv_l10, eqv_t00, eqv_t10, wE_mkFF, r_lstR, r_lstM, r_seqW, r_lstW, r_isL, r_insAt, r_tyW, r_srcW, r_dat, s_im, s_tup, s_lr, s_sc, l_im, l_lr, l_sc, m_im, m_lr, i_im, i_lr, i_sc, c_im, c_tup, c_sc, t_tup, t_im, t_int, t_bl, t_str, t_non, ln_ref, ln_tup, ln_im, ln_lr, ix_ref, ix_tup', ix_im, ix_lr, ix_sc, isN_ref, isN_non, isN_tup, isN_int, isN_bl, isN_str, isN_im, List.map_cons, List.map_nil, List.cons_append, List.nil_append, List.append_nil, List.getElem?_cons_zero, List.getElem?_cons_succ, List.set_cons_zero, List.set_cons_succ, List.replicate_succ, List.replicate_zero, List.length_cons, List.length_nil, List.lookup, il_int, il_bl, il_str, il_non, il_tup, il_im, il_sc, il_ref, il_cl, il_lr, ixN_zero, it_NoneType_bool, it_NoneType_int, it_NoneType_str, it_NoneType_tuple, it_NoneType_list, it_NoneType_dict, it_bool_bool, it_bool_int, it_bool_str, it_bool_tuple, it_bool_list, it_bool_dict, it_int_bool, it_int_int, it_int_str, it_int_tuple, it_int_list, it_int_dict, it_str_bool, it_str_int, it_str_str, it_str_tuple, it_str_list, it_str_dict, it_tuple_bool, it_tuple_int, it_tuple_str, it_tuple_tuple, it_tuple_list, it_tuple_dict, it_list_bool, it_list_int, it_list_str, it_list_tuple, it_list_list, it_list_dict, it_dict_bool, it_dict_int, it_dict_str, it_dict_tuple, it_dict_list, it_dict_dict, eq_self, Bool.not_true, Bool.not_false, decide_true, decide_false, true_and, and_true, Option.some.injEq, exists_eq_left, exists_eq_left', exists_eq_right, W.bl.injEq, W.int.injEq, Bool.false_eq_true, Bool.true_eq_false, reduceCtorEq, false_and, exists_false, and_self, forall_const, false_implies, true_implies, if_true, if_false, Int.reduceLE, Int.reduceLT, Int.reduceNeg, Nat.reduceLeDiff, Nat.reduceAdd, Nat.reduceSub, String.reduceEq, String.reduceBEq, String.reduceBNe, wE_mkFX, List.lookup_cons_self, beq_self_eq_true, Option.map_some, Option.map_none, hc, dat_im, dd, dr, ha]
         rw [o_setIx (k := 1) (ixN_of (by omega) h1)]
         try simp (config := { dsimp := false }) only [o_bl, o_slv, o_sll, o_op, o_if, o_d2, f_eq, f_ne, o_tup, o_len, o_bls, o_int, o_at, o_app, o_pop0, o_ins, o_cat, f_cnt, o_ty, o_isX, o_xf, o_cX, o_ran, o_sm, o_catchT, o_catchF, wE_oIf, gDivC, gModC, Option.isNone_none, Option.isNone_some, Option.bind_some, Bool.and_true, Bool.true_and, Bool.and_eq_true, decide_eq_true_eq, decide_eq_false_iff_not, v_catT, ln_sc, wE_ok, wE_exc, wE_bad, wE_bind, wS_nx, wS_rt, wS_bk, wS_ct, wS_exc, wS_bad, wS_bSeq, w_bNil, w_sBrk, w_sCnt, w_sIf, w_sRet, w_sRetN, w_sSet, w_sSetL, w_sExp, w_eBin, w_lBin, w_eUn, w_lUn, w_tOf, w_tAnd2, w_tOr2, w_tNot1, w_eAnd, w_eOr, w_eNot, w_eIf, w_eC, w_eTup, w_lLst, w_aNil, w_aCons, w_eIm, w_eAl, w_eCall, w_eFld, w_eM1, w_eM0, w_eM2, w_eMeth, w_ePrp, w_eNew, w_sFldW, w_sDel, w_sRaise1, v_add, v_addS, v_sub, v_mul, v_div, v_mod, v_lt, v_le, v_gt, v_ge, v_isN, v_notN, v_neg, v_int, v_intB, v_abs, v_max2, v_min2, v_eq, v_ne, v_tup, v_seqL, v_bls, v_ints, v_app, v_popAt, v_pop, v_ins, v_cat, v_cnt, w_eIsT, w_eVar, w_eIsX, w_eXf, w_eCallX, w_iRan1, w_iSeq, w_iOwn, w_lComp, w_sFor, w_for0, w_for1, w_gN, w_gSet, w_sTry, w_catch0, w_catch, w_aftX, w_sAsg, w_lCut, w_oNone, w_oSome, w_tYes, dat_cs, dat_non, dat_bl, dat_int, eqv_int, eqv_bool, eqv_cs, eqv_str, eqv_l00, eqv_l10, eqv_t00, eqv_t10, wE_mkFF, r_lstR, r_lstM, r_seqW, r_lstW, r_isL, r_insAt, r_tyW, r_srcW, r_dat, s_im, s_tup, s_lr, s_sc, l_im, l_lr, l_sc, m_im, m_lr, i_im, i_lr, i_sc, c_im, c_tup, c_sc, t_tup, t_im, t_int, t_bl, t_str, t_non, ln_ref, ln_tup, ln_im, ln_lr, ix_ref, ix_tup', ix_im, ix_lr, ix_sc, isN_ref, isN_non, isN_tup, isN_int, isN_bl, isN_str, isN_im, List.map_cons, List.map_nil, List.cons_append, List.nil_append, List.append_nil, List.getElem?_cons_zero, List.getElem?_cons_succ, List.set_cons_zero, List.set_cons_succ, List.replicate_succ, List.replicate_zero, List.length_cons, List.length_nil, List.lookup, il_int, il_bl, il_str, il_non, il_tup, il_im, il_sc, il_ref, il_cl, il_lr, ixN_zero, it_NoneType_bool, it_NoneType_int, it_NoneType_str, it_NoneType_tuple, it_NoneType_list, it_NoneType_dict, it_bool_bool, it_bool_int, it_bool_str, it_bool_tuple, it_bool_list, it_bool_dict, it_int_bool, it_int_int, it_int_str, it_int_tuple, it_int_list, it_int_dict, it_str_bool, it_str_int, it_str_str, it_str_tuple, it_str_list, it_str_dict, it_tuple_bool, it_tuple_int, it_tuple_str, it_tuple_tuple, it_tuple_list, it_tuple_dict, it_list_bool, it_list_int, it_list_str, it_list_tuple, it_list_list, it_list_dict, it_dict_bool, it_dict_int, it_dict_str, it_dict_tuple, it_dict_list, it_dict_dict, eq_self, Bool.not_true, Bool.not_false, decide_true, decide_false, true_and, and_true, Option.some.injEq, exists_eq_left, exists_eq_left', exists_eq_right, W.bl.injEq, W.int.injEq, Bool.false_eq_true, Bool.true_eq_false, reduceCtorEq, false_and, exists_false, and_self, forall_const, false_implies, true_implies, if_true, if_false, Int.reduceLE, Int.reduceLT, Int.reduceNeg, Nat.reduceLeDiff, Nat.reduceAdd, Nat.reduceSub, String.reduceEq, String.reduceBEq, String.reduceBNe, wE_mkFX, List.lookup_cons_self, beq_self_eq_true, Option.map_some, Option.map_none, List.getElem?_set_self hl]
         refine ⟨by rw [List.length_set]; omega, ?_⟩
         obtain ⟨L0', L1', hS⟩ := fin ((sT.set h (.lst (us.set 1 (.int (j + 1))))).set h (.lst (us.set 1 (.int (j + 1)) ++ [.int 0]))) _ _ ((d.seth ha7 hb7 hc7 hh).seth ha7 hb7 hc7 hh) fun i hi _ _ _ => by rw [List.getElem?_set_ne (by omega), List.getElem?_set_ne (by omega)]
         refine seen_ok hS ?_
         exact ⟨rfl, q _ _ _ _ hS⟩)
end Kheldbestk65nets

end

section
set_option Elab.async false
set_option linter.all false
set_option maxRecDepth 100000
set_option maxHeartbeats 2000000
namespace Kheldbestk65nets
open PySem L2 Hb

def Inv (sc : W) (r many : Int) (_ : Nat) (e : Hb.Env) (s : Store) : Prop := ∃ x6 x7 x8 x9 x10 x11 x12 l L0 L1, e = [.v sc, .v (.ref 0), .v (.int r), .v (.int many), .v (.im [.ref 1, .ref 3]), .v (.im [.ref 5, .ref 6]), x6, x7, x8, x9, x10, x11, x12] ∧ St s l L0 L1
theorem mul_ok {i n : Int} (h0 : 0 ≤ i) (h1 : i < 100) : gMulC i n = true := by
  unfold gMulC
  rw [decide_eq_true_eq]
  left
  constructor <;> omega
theorem word_ok {x : Int} (h0 : 0 ≤ x) (h1 : x < 5) : ∃ k : String, (k = "send" ∨ k = "take" ∨ k = "at") ∧ atW [W.str (cs "send"), .str (cs "take"), .str (cs "at"), .str (cs "send"), .str (cs "take")] x = some (.str (cs k)) := by
  rcases (show x = 0 ∨ x = 1 ∨ x = 2 ∨ x = 3 ∨ x = 4 by omega) with rfl | rfl | rfl | rfl | rfl
  · exact ⟨_, .inl rfl, rfl⟩
  · exact ⟨_, .inr (.inl rfl), rfl⟩
  · exact ⟨_, .inr (.inr rfl), rfl⟩
  · exact ⟨_, .inl rfl, rfl⟩
  · exact ⟨_, .inr (.inl rfl), rfl⟩
theorem ran_ok {m : Nat} {i : Nat} {w : W} (h : (rangeW 0 m)[i]? = some w) : ∃ n, w = .int n ∧ 0 ≤ n ∧ n < m := by
  rw [rangeW_get] at h
  split at h
  · rename_i hi
    cases h
    exact ⟨_, rfl, by omega, by omega⟩
  · cases h
def absI (i : Int) : Int := if i < 0 then -i else i
theorem absI_nn (i : Int) : 0 ≤ absI i := by unfold absI; split <;> omega
theorem law_plain {ns : List Int} (hn : ns.length ≤ 63) : wE (f_law [.sc (ns.map W.int)] []) (fun w _ => w = .bl true) fun _ _ _ => False := by
  have cut : cutW (ns.map W.int) none (some 63) = ns.map W.int := by
    simp only [cutW, List.length_map, HT.sIx_none]
    rw [show (63 : Int) = ((63 : Nat) : Int) from rfl, HT.sIx_nat]
    simp only [List.drop_zero, Nat.sub_zero]
    rw [List.take_of_length_le]
    rw [List.length_map]
    omega
  unfold f_law
  try simp (config := { dsimp := false }) only [o_bl, o_slv, o_sll, o_op, o_if, o_d2, f_eq, f_ne, o_tup, o_len, o_bls, o_int, o_at, o_app, o_pop0, o_ins, o_cat, f_cnt, o_ty, o_isX, o_xf, o_cX, o_ran, o_sm, o_catchT, o_catchF, wE_oIf, gDivC, gModC, Option.isNone_none, Option.isNone_some, Option.bind_some, Bool.and_true, Bool.true_and, Bool.and_eq_true, decide_eq_true_eq, decide_eq_false_iff_not, v_catT, ln_sc, wE_ok, wE_exc, wE_bad, wE_bind, wS_nx, wS_rt, wS_bk, wS_ct, wS_exc, wS_bad, wS_bSeq, w_bNil, w_sBrk, w_sCnt, w_sIf, w_sRet, w_sRetN, w_sSet, w_sSetL, w_sExp, w_eBin, w_lBin, w_eUn, w_lUn, w_tOf, w_tAnd2, w_tOr2, w_tNot1, w_eAnd, w_eOr, w_eNot, w_eIf, w_eC, w_eTup, w_lLst, w_aNil, w_aCons, w_eIm, w_eAl, w_eCall, w_eFld, w_eM1, w_eM0, w_eM2, w_eMeth, w_ePrp, w_eNew, w_sFldW, w_sDel, w_sRaise1, v_add, v_addS, v_sub, v_mul, v_div, v_mod, v_lt, v_le, v_gt, v_ge, v_isN, v_notN, v_neg, v_int, v_intB, v_abs, v_max2, v_min2, v_eq, v_ne, v_tup, v_seqL, v_bls, v_ints, v_app, v_popAt, v_pop, v_ins, v_cat, v_cnt, w_eIsT, w_eVar, w_eIsX, w_eXf, w_eCallX, w_iRan1, w_iSeq, w_iOwn, w_lComp, w_sFor, w_for0, w_for1, w_gN, w_gSet, w_sTry, w_catch0, w_catch, w_aftX, w_sAsg, w_lCut, w_oNone, w_oSome, w_tYes, dat_cs, dat_non, dat_bl, dat_int, eqv_int, eqv_bool, eqv_cs, eqv_str, eqv_l00, eqv_l10, eqv_t00, eqv_t10, wE_mkFF, r_lstR, r_lstM, r_seqW, r_lstW, r_isL, r_insAt, r_tyW, r_srcW, r_dat, s_im, s_tup, s_lr, s_sc, l_im, l_lr, l_sc, m_im, m_lr, i_im, i_lr, i_sc, c_im, c_tup, c_sc, t_tup, t_im, t_int, t_bl, t_str, t_non, ln_ref, ln_tup, ln_im, ln_lr, ix_ref, ix_tup', ix_im, ix_lr, ix_sc, isN_ref, isN_non, isN_tup, isN_int, isN_bl, isN_str, isN_im, List.map_cons, List.map_nil, List.cons_append, List.nil_append, List.append_nil, List.getElem?_cons_zero, List.getElem?_cons_succ, List.set_cons_zero, List.set_cons_succ, List.replicate_succ, List.replicate_zero, List.length_cons, List.length_nil, List.lookup, il_int, il_bl, il_str, il_non, il_tup, il_im, il_sc, il_ref, il_cl, il_lr, ixN_zero, it_NoneType_bool, it_NoneType_int, it_NoneType_str, it_NoneType_tuple, it_NoneType_list, it_NoneType_dict, it_bool_bool, it_bool_int, it_bool_str, it_bool_tuple, it_bool_list, it_bool_dict, it_int_bool, it_int_int, it_int_str, it_int_tuple, it_int_list, it_int_dict, it_str_bool, it_str_int, it_str_str, it_str_tuple, it_str_list, it_str_dict, it_tuple_bool, it_tuple_int, it_tuple_str, it_tuple_tuple, it_tuple_list, it_tuple_dict, it_list_bool, it_list_int, it_list_str, it_list_tuple, it_list_list, it_list_dict, it_dict_bool, it_dict_int, it_dict_str, it_dict_tuple, it_dict_list, it_dict_dict, eq_self, Bool.not_true, Bool.not_false, decide_true, decide_false, true_and, and_true, Option.some.injEq, exists_eq_left, exists_eq_left', exists_eq_right, W.bl.injEq, W.int.injEq, Bool.false_eq_true, Bool.true_eq_false, reduceCtorEq, false_and, exists_false, and_self, forall_const, false_implies, true_implies, if_true, if_false, Int.reduceLE, Int.reduceLT, Int.reduceNeg, Nat.reduceLeDiff, Nat.reduceAdd, Nat.reduceSub, String.reduceEq, String.reduceBEq, String.reduceBNe, wE_mkFX, List.lookup_cons_self, beq_self_eq_true, Option.map_some, Option.map_none, cut]
  refine compL_inv (fun k st acc => st = [] ∧ acc = (ns.take k).map fun i => W.int (absI i)) (by intros; exact trivial) _ 0 _ _ ⟨rfl, rfl⟩ ?_ ?_
  · rintro i w st acc hw ⟨rfl, rfl⟩
    simp only [List.getElem?_map, Option.map_eq_some_iff] at hw
    obtain ⟨n, hn1, rfl⟩ := hw
    refine ⟨_, _, rfl, ?_⟩
    try simp (config := { dsimp := false }) only [o_bl, o_slv, o_sll, o_op, o_if, o_d2, f_eq, f_ne, o_tup, o_len, o_bls, o_int, o_at, o_app, o_pop0, o_ins, o_cat, f_cnt, o_ty, o_isX, o_xf, o_cX, o_ran, o_sm, o_catchT, o_catchF, wE_oIf, gDivC, gModC, Option.isNone_none, Option.isNone_some, Option.bind_some, Bool.and_true, Bool.true_and, Bool.and_eq_true, decide_eq_true_eq, decide_eq_false_iff_not, v_catT, ln_sc, wE_ok, wE_exc, wE_bad, wE_bind, wS_nx, wS_rt, wS_bk, wS_ct, wS_exc, wS_bad, wS_bSeq, w_bNil, w_sBrk, w_sCnt, w_sIf, w_sRet, w_sRetN, w_sSet, w_sSetL, w_sExp, w_eBin, w_lBin, w_eUn, w_lUn, w_tOf, w_tAnd2, w_tOr2, w_tNot1, w_eAnd, w_eOr, w_eNot, w_eIf, w_eC, w_eTup, w_lLst, w_aNil, w_aCons, w_eIm, w_eAl, w_eCall, w_eFld, w_eM1, w_eM0, w_eM2, w_eMeth, w_ePrp, w_eNew, w_sFldW, w_sDel, w_sRaise1, v_add, v_addS, v_sub, v_mul, v_div, v_mod, v_lt, v_le, v_gt, v_ge, v_isN, v_notN, v_neg, v_int, v_intB, v_abs, v_max2, v_min2, v_eq, v_ne, v_tup, v_seqL, v_bls, v_ints, v_app, v_popAt, v_pop, v_ins, v_cat, v_cnt, w_eIsT, w_eVar, w_eIsX, w_eXf, w_eCallX, w_iRan1, w_iSeq, w_iOwn, w_lComp, w_sFor, w_for0, w_for1, w_gN, w_gSet, w_sTry, w_catch0, w_catch, w_aftX, w_sAsg, w_lCut, w_oNone, w_oSome, w_tYes, dat_cs, dat_non, dat_bl, dat_int, eqv_int, eqv_bool, eqv_cs, eqv_str, eqv_l00, eqv_l10, eqv_t00, eqv_t10, wE_mkFF, r_lstR, r_lstM, r_seqW, r_lstW, r_isL, r_insAt, r_tyW, r_srcW, r_dat, s_im, s_tup, s_lr, s_sc, l_im, l_lr, l_sc, m_im, m_lr, i_im, i_lr, i_sc, c_im, c_tup, c_sc, t_tup, t_im, t_int, t_bl, t_str, t_non, ln_ref, ln_tup, ln_im, ln_lr, ix_ref, ix_tup', ix_im, ix_lr, ix_sc, isN_ref, isN_non, isN_tup, isN_int, isN_bl, isN_str, isN_im, List.map_cons, List.map_nil, List.cons_append, List.nil_append, List.append_nil, List.getElem?_cons_zero, List.getElem?_cons_succ, List.set_cons_zero, List.set_cons_succ, List.replicate_succ, List.replicate_zero, List.length_cons, List.length_nil, List.lookup, il_int, il_bl, il_str, il_non, il_tup, il_im, il_sc, il_ref, il_cl, il_lr, ixN_zero, it_NoneType_bool, it_NoneType_int, it_NoneType_str, it_NoneType_tuple, it_NoneType_list, it_NoneType_dict, it_bool_bool, it_bool_int, it_bool_str, it_bool_tuple, it_bool_list, it_bool_dict, it_int_bool, it_int_int, it_int_str, it_int_tuple, it_int_list, it_int_dict, it_str_bool, it_str_int, it_str_str, it_str_tuple, it_str_list, it_str_dict, it_tuple_bool, it_tuple_int, it_tuple_str, it_tuple_tuple, it_tuple_list, it_tuple_dict, it_list_bool, it_list_int, it_list_str, it_list_tuple, it_list_list, it_list_dict, it_dict_bool, it_dict_int, it_dict_str, it_dict_tuple, it_dict_list, it_dict_dict, eq_self, Bool.not_true, Bool.not_false, decide_true, decide_false, true_and, and_true, Option.some.injEq, exists_eq_left, exists_eq_left', exists_eq_right, W.bl.injEq, W.int.injEq, Bool.false_eq_true, Bool.true_eq_false, reduceCtorEq, false_and, exists_false, and_self, forall_const, false_implies, true_implies, if_true, if_false, Int.reduceLE, Int.reduceLT, Int.reduceNeg, Nat.reduceLeDiff, Nat.reduceAdd, Nat.reduceSub, String.reduceEq, String.reduceBEq, String.reduceBNe, wE_mkFX, List.lookup_cons_self, beq_self_eq_true, Option.map_some, Option.map_none, wipeE]
    have hi : i < ns.length := (List.getElem?_eq_some_iff.mp hn1).1
    refine ⟨by simp; omega, ?_⟩
    rw [Nat.zero_add, List.take_add_one, hn1]
    simp [absI]
  · rintro st acc ⟨rfl, rfl⟩
    try simp (config := { dsimp := false }) only [o_bl, o_slv, o_sll, o_op, o_if, o_d2, f_eq, f_ne, o_tup, o_len, o_bls, o_int, o_at, o_app, o_pop0, o_ins, o_cat, f_cnt, o_ty, o_isX, o_xf, o_cX, o_ran, o_sm, o_catchT, o_catchF, wE_oIf, gDivC, gModC, Option.isNone_none, Option.isNone_some, Option.bind_some, Bool.and_true, Bool.true_and, Bool.and_eq_true, decide_eq_true_eq, decide_eq_false_iff_not, v_catT, ln_sc, wE_ok, wE_exc, wE_bad, wE_bind, wS_nx, wS_rt, wS_bk, wS_ct, wS_exc, wS_bad, wS_bSeq, w_bNil, w_sBrk, w_sCnt, w_sIf, w_sRet, w_sRetN, w_sSet, w_sSetL, w_sExp, w_eBin, w_lBin, w_eUn, w_lUn, w_tOf, w_tAnd2, w_tOr2, w_tNot1, w_eAnd, w_eOr, w_eNot, w_eIf, w_eC, w_eTup, w_lLst, w_aNil, w_aCons, w_eIm, w_eAl, w_eCall, w_eFld, w_eM1, w_eM0, w_eM2, w_eMeth, w_ePrp, w_eNew, w_sFldW, w_sDel, w_sRaise1, v_add, v_addS, v_sub, v_mul, v_div, v_mod, v_lt, v_le, v_gt, v_ge, v_isN, v_notN, v_neg, v_int, v_intB, v_abs, v_max2, v_min2, v_eq, v_ne, v_tup, v_seqL, v_bls, v_ints, v_app, v_popAt, v_pop, v_ins, v_cat, v_cnt, w_eIsT, w_eVar, w_eIsX, w_eXf, w_eCallX, w_iRan1, w_iSeq, w_iOwn, w_lComp, w_sFor, w_for0, w_for1, w_gN, w_gSet, w_sTry, w_catch0, w_catch, w_aftX, w_sAsg, w_lCut, w_oNone, w_oSome, w_tYes, dat_cs, dat_non, dat_bl, dat_int, eqv_int, eqv_bool, eqv_cs, eqv_str, eqv_l00, eqv_l10, eqv_t00, eqv_t10, wE_mkFF, r_lstR, r_lstM, r_seqW, r_lstW, r_isL, r_insAt, r_tyW, r_srcW, r_dat, s_im, s_tup, s_lr, s_sc, l_im, l_lr, l_sc, m_im, m_lr, i_im, i_lr, i_sc, c_im, c_tup, c_sc, t_tup, t_im, t_int, t_bl, t_str, t_non, ln_ref, ln_tup, ln_im, ln_lr, ix_ref, ix_tup', ix_im, ix_lr, ix_sc, isN_ref, isN_non, isN_tup, isN_int, isN_bl, isN_str, isN_im, List.map_cons, List.map_nil, List.cons_append, List.nil_append, List.append_nil, List.getElem?_cons_zero, List.getElem?_cons_succ, List.set_cons_zero, List.set_cons_succ, List.replicate_succ, List.replicate_zero, List.length_cons, List.length_nil, List.lookup, il_int, il_bl, il_str, il_non, il_tup, il_im, il_sc, il_ref, il_cl, il_lr, ixN_zero, it_NoneType_bool, it_NoneType_int, it_NoneType_str, it_NoneType_tuple, it_NoneType_list, it_NoneType_dict, it_bool_bool, it_bool_int, it_bool_str, it_bool_tuple, it_bool_list, it_bool_dict, it_int_bool, it_int_int, it_int_str, it_int_tuple, it_int_list, it_int_dict, it_str_bool, it_str_int, it_str_str, it_str_tuple, it_str_list, it_str_dict, it_tuple_bool, it_tuple_int, it_tuple_str, it_tuple_tuple, it_tuple_list, it_tuple_dict, it_list_bool, it_list_int, it_list_str, it_list_tuple, it_list_list, it_list_dict, it_dict_bool, it_dict_int, it_dict_str, it_dict_tuple, it_dict_list, it_dict_dict, eq_self, Bool.not_true, Bool.not_false, decide_true, decide_false, true_and, and_true, Option.some.injEq, exists_eq_left, exists_eq_left', exists_eq_right, W.bl.injEq, W.int.injEq, Bool.false_eq_true, Bool.true_eq_false, reduceCtorEq, false_and, exists_false, and_self, forall_const, false_implies, true_implies, if_true, if_false, Int.reduceLE, Int.reduceLT, Int.reduceNeg, Nat.reduceLeDiff, Nat.reduceAdd, Nat.reduceSub, String.reduceEq, String.reduceBEq, String.reduceBNe, wE_mkFX, List.lookup_cons_self, beq_self_eq_true, Option.map_some, Option.map_none]
    have p0 : IsPool [Cell.lst (List.map (fun i => W.int (absI i)) (List.take (0 + (List.map W.int ns).length) ns))] 0 (ns.map absI) := by
      refine ⟨?_, ?_, by simpa using hn⟩
      · simp [Function.comp_def]
      · intro x hx
        obtain ⟨y, _, rfl⟩ := List.mem_map.mp hx
        exact absI_nn y
    generalize hs : [Cell.lst (List.map (fun i => W.int (absI i)) (List.take (0 + (List.map W.int ns).length) ns))] = s0 at *
    have hl : s0.length = 1 := by rw [← hs]; rfl
    refine drawA p0 (by omega) (by omega) fun r l1 s1 r0 r1 p1 m1 => ?_
    try simp (config := { dsimp := false }) only [o_bl, o_slv, o_sll, o_op, o_if, o_d2, f_eq, f_ne, o_tup, o_len, o_bls, o_int, o_at, o_app, o_pop0, o_ins, o_cat, f_cnt, o_ty, o_isX, o_xf, o_cX, o_ran, o_sm, o_catchT, o_catchF, wE_oIf, gDivC, gModC, Option.isNone_none, Option.isNone_some, Option.bind_some, Bool.and_true, Bool.true_and, Bool.and_eq_true, decide_eq_true_eq, decide_eq_false_iff_not, v_catT, ln_sc, wE_ok, wE_exc, wE_bad, wE_bind, wS_nx, wS_rt, wS_bk, wS_ct, wS_exc, wS_bad, wS_bSeq, w_bNil, w_sBrk, w_sCnt, w_sIf, w_sRet, w_sRetN, w_sSet, w_sSetL, w_sExp, w_eBin, w_lBin, w_eUn, w_lUn, w_tOf, w_tAnd2, w_tOr2, w_tNot1, w_eAnd, w_eOr, w_eNot, w_eIf, w_eC, w_eTup, w_lLst, w_aNil, w_aCons, w_eIm, w_eAl, w_eCall, w_eFld, w_eM1, w_eM0, w_eM2, w_eMeth, w_ePrp, w_eNew, w_sFldW, w_sDel, w_sRaise1, v_add, v_addS, v_sub, v_mul, v_div, v_mod, v_lt, v_le, v_gt, v_ge, v_isN, v_notN, v_neg, v_int, v_intB, v_abs, v_max2, v_min2, v_eq, v_ne, v_tup, v_seqL, v_bls, v_ints, v_app, v_popAt, v_pop, v_ins, v_cat, v_cnt, w_eIsT, w_eVar, w_eIsX, w_eXf, w_eCallX, w_iRan1, w_iSeq, w_iOwn, w_lComp, w_sFor, w_for0, w_for1, w_gN, w_gSet, w_sTry, w_catch0, w_catch, w_aftX, w_sAsg, w_lCut, w_oNone, w_oSome, w_tYes, dat_cs, dat_non, dat_bl, dat_int, eqv_int, eqv_bool, eqv_cs, eqv_str, eqv_l00, eqv_l10, eqv_t00, eqv_t10, wE_mkFF, r_lstR, r_lstM, r_seqW, r_lstW, r_isL, r_insAt, r_tyW, r_srcW, r_dat, s_im, s_tup, s_lr, s_sc, l_im, l_lr, l_sc, m_im, m_lr, i_im, i_lr, i_sc, c_im, c_tup, c_sc, t_tup, t_im, t_int, t_bl, t_str, t_non, ln_ref, ln_tup, ln_im, ln_lr, ix_ref, ix_tup', ix_im, ix_lr, ix_sc, isN_ref, isN_non, isN_tup, isN_int, isN_bl, isN_str, isN_im, List.map_cons, List.map_nil, List.cons_append, List.nil_append, List.append_nil, List.getElem?_cons_zero, List.getElem?_cons_succ, List.set_cons_zero, List.set_cons_succ, List.replicate_succ, List.replicate_zero, List.length_cons, List.length_nil, List.lookup, il_int, il_bl, il_str, il_non, il_tup, il_im, il_sc, il_ref, il_cl, il_lr, ixN_zero, it_NoneType_bool, it_NoneType_int, it_NoneType_str, it_NoneType_tuple, it_NoneType_list, it_NoneType_dict, it_bool_bool, it_bool_int, it_bool_str, it_bool_tuple, it_bool_list, it_bool_dict, it_int_bool, it_int_int, it_int_str, it_int_tuple, it_int_list, it_int_dict, it_str_bool, it_str_int, it_str_str, it_str_tuple, it_str_list, it_str_dict, it_tuple_bool, it_tuple_int, it_tuple_str, it_tuple_tuple, it_tuple_list, it_tuple_dict, it_list_bool, it_list_int, it_list_str, it_list_tuple, it_list_list, it_list_dict, it_dict_bool, it_dict_int, it_dict_str, it_dict_tuple, it_dict_list, it_dict_dict, eq_self, Bool.not_true, Bool.not_false, decide_true, decide_false, true_and, and_true, Option.some.injEq, exists_eq_left, exists_eq_left', exists_eq_right, W.bl.injEq, W.int.injEq, Bool.false_eq_true, Bool.true_eq_false, reduceCtorEq, false_and, exists_false, and_self, forall_const, false_implies, true_implies, if_true, if_false, Int.reduceLE, Int.reduceLT, Int.reduceNeg, Nat.reduceLeDiff, Nat.reduceAdd, Nat.reduceSub, String.reduceEq, String.reduceBEq, String.reduceBNe, wE_mkFX, List.lookup_cons_self, beq_self_eq_true, Option.map_some, Option.map_none]
    refine drawA p1 (by omega) (by omega) fun r2 l2 s2 r20 r21 p2 m2 => ?_
    try simp (config := { dsimp := false }) only [o_bl, o_slv, o_sll, o_op, o_if, o_d2, f_eq, f_ne, o_tup, o_len, o_bls, o_int, o_at, o_app, o_pop0, o_ins, o_cat, f_cnt, o_ty, o_isX, o_xf, o_cX, o_ran, o_sm, o_catchT, o_catchF, wE_oIf, gDivC, gModC, Option.isNone_none, Option.isNone_some, Option.bind_some, Bool.and_true, Bool.true_and, Bool.and_eq_true, decide_eq_true_eq, decide_eq_false_iff_not, v_catT, ln_sc, wE_ok, wE_exc, wE_bad, wE_bind, wS_nx, wS_rt, wS_bk, wS_ct, wS_exc, wS_bad, wS_bSeq, w_bNil, w_sBrk, w_sCnt, w_sIf, w_sRet, w_sRetN, w_sSet, w_sSetL, w_sExp, w_eBin, w_lBin, w_eUn, w_lUn, w_tOf, w_tAnd2, w_tOr2, w_tNot1, w_eAnd, w_eOr, w_eNot, w_eIf, w_eC, w_eTup, w_lLst, w_aNil, w_aCons, w_eIm, w_eAl, w_eCall, w_eFld, w_eM1, w_eM0, w_eM2, w_eMeth, w_ePrp, w_eNew, w_sFldW, w_sDel, w_sRaise1, v_add, v_addS, v_sub, v_mul, v_div, v_mod, v_lt, v_le, v_gt, v_ge, v_isN, v_notN, v_neg, v_int, v_intB, v_abs, v_max2, v_min2, v_eq, v_ne, v_tup, v_seqL, v_bls, v_ints, v_app, v_popAt, v_pop, v_ins, v_cat, v_cnt, w_eIsT, w_eVar, w_eIsX, w_eXf, w_eCallX, w_iRan1, w_iSeq, w_iOwn, w_lComp, w_sFor, w_for0, w_for1, w_gN, w_gSet, w_sTry, w_catch0, w_catch, w_aftX, w_sAsg, w_lCut, w_oNone, w_oSome, w_tYes, dat_cs, dat_non, dat_bl, dat_int, eqv_int, eqv_bool, eqv_cs, eqv_str, eqv_l00, eqv_l10, eqv_t00, eqv_t10, wE_mkFF, r_lstR, r_lstM, r_seqW, r_lstW, r_isL, r_insAt, r_tyW, r_srcW, r_dat, s_im, s_tup, s_lr, s_sc, l_im, l_lr, l_sc, m_im, m_lr, i_im, i_lr, i_sc, c_im, c_tup, c_sc, t_tup, t_im, t_int, t_bl, t_str, t_non, ln_ref, ln_tup, ln_im, ln_lr, ix_ref, ix_tup', ix_im, ix_lr, ix_sc, isN_ref, isN_non, isN_tup, isN_int, isN_bl, isN_str, isN_im, List.map_cons, List.map_nil, List.cons_append, List.nil_append, List.append_nil, List.getElem?_cons_zero, List.getElem?_cons_succ, List.set_cons_zero, List.set_cons_succ, List.replicate_succ, List.replicate_zero, List.length_cons, List.length_nil, List.lookup, il_int, il_bl, il_str, il_non, il_tup, il_im, il_sc, il_ref, il_cl, il_lr, ixN_zero, it_NoneType_bool, it_NoneType_int, it_NoneType_str, it_NoneType_tuple, it_NoneType_list, it_NoneType_dict, it_bool_bool, it_bool_int, it_bool_str, it_bool_tuple, it_bool_list, it_bool_dict, it_int_bool, it_int_int, it_int_str, it_int_tuple, it_int_list, it_int_dict, it_str_bool, it_str_int, it_str_str, it_str_tuple, it_str_list, it_str_dict, it_tuple_bool, it_tuple_int, it_tuple_str, it_tuple_tuple, it_tuple_list, it_tuple_dict, it_list_bool, it_list_int, it_list_str, it_list_tuple, it_list_list, it_list_dict, it_dict_bool, it_dict_int, it_dict_str, it_dict_tuple, it_dict_list, it_dict_dict, eq_self, Bool.not_true, Bool.not_false, decide_true, decide_false, true_and, and_true, Option.some.injEq, exists_eq_left, exists_eq_left', exists_eq_right, W.bl.injEq, W.int.injEq, Bool.false_eq_true, Bool.true_eq_false, reduceCtorEq, false_and, exists_false, and_self, forall_const, false_implies, true_implies, if_true, if_false, Int.reduceLE, Int.reduceLT, Int.reduceNeg, Nat.reduceLeDiff, Nat.reduceAdd, Nat.reduceSub, String.reduceEq, String.reduceBEq, String.reduceBNe, wE_mkFX, List.lookup_cons_self, beq_self_eq_true, Option.map_some, Option.map_none]
    obtain ⟨cc, rfl⟩ : ∃ cc, s2 = [cc] := List.length_eq_one_iff.mp (by rw [m2.len, m1.len, hl])
    refine ⟨fun e3 => ?_, fun e3 => ?_⟩
    all_goals try simp (config := { dsimp := false }) only [o_bl, o_slv, o_sll, o_op, o_if, o_d2, f_eq, f_ne, o_tup, o_len, o_bls, o_int, o_at, o_app, o_pop0, o_ins, o_cat, f_cnt, o_ty, o_isX, o_xf, o_cX, o_ran, o_sm, o_catchT, o_catchF, wE_oIf, gDivC, gModC, Option.isNone_none, Option.isNone_some, Option.bind_some, Bool.and_true, Bool.true_and, Bool.and_eq_true, decide_eq_true_eq, decide_eq_false_iff_not, v_catT, ln_sc, wE_ok, wE_exc, wE_bad, wE_bind, wS_nx, wS_rt, wS_bk, wS_ct, wS_exc, wS_bad, wS_bSeq, w_bNil, w_sBrk, w_sCnt, w_sIf, w_sRet, w_sRetN, w_sSet, w_sSetL, w_sExp, w_eBin, w_lBin, w_eUn, w_lUn, w_tOf, w_tAnd2, w_tOr2, w_tNot1, w_eAnd, w_eOr, w_eNot, w_eIf, w_eC, w_eTup, w_lLst, w_aNil, w_aCons, w_eIm, w_eAl, w_eCall, w_eFld, w_eM1, w_eM0, w_eM2, w_eMeth, w_ePrp, w_eNew, w_sFldW, w_sDel, w_sRaise1, v_add, v_addS, v_sub, v_mul, v_div, v_mod, v_lt, v_le, v_gt, v_ge, v_isN, v_notN, v_neg, v_int, v_intB, v_abs, v_max2, v_min2, v_eq, v_ne, v_tup, v_seqL, v_bls, v_ints, v_app, v_popAt, v_pop, v_ins, v_cat, v_cnt, w_eIsT, w_eVar, w_eIsX, w_eXf, w_eCallX, w_iRan1, w_iSeq, w_iOwn, w_lComp, w_sFor, w_for0, w_for1, w_gN, w_gSet, w_sTry, w_catch0, w_catch, w_aftX, w_sAsg, w_lCut, w_oNone, w_oSome, w_tYes, dat_cs, dat_non, dat_bl, dat_int, eqv_int, eqv_bool, eqv_cs, eqv_str, eqv_l00, eqv_l10, eqv_t00, eqv_t10, wE_mkFF, r_lstR, r_lstM, r_seqW, r_lstW, r_isL, r_insAt, r_tyW, r_srcW, r_dat, s_im, s_tup, s_lr, s_sc, l_im, l_lr, l_sc, m_im, m_lr, i_im, i_lr, i_sc, c_im, c_tup, c_sc, t_tup, t_im, t_int, t_bl, t_str, t_non, ln_ref, ln_tup, ln_im, ln_lr, ix_ref, ix_tup', ix_im, ix_lr, ix_sc, isN_ref, isN_non, isN_tup, isN_int, isN_bl, isN_str, isN_im, List.map_cons, List.map_nil, List.cons_append, List.nil_append, List.append_nil, List.getElem?_cons_zero, List.getElem?_cons_succ, List.set_cons_zero, List.set_cons_succ, List.replicate_succ, List.replicate_zero, List.length_cons, List.length_nil, List.lookup, il_int, il_bl, il_str, il_non, il_tup, il_im, il_sc, il_ref, il_cl, il_lr, ixN_zero, it_NoneType_bool, it_NoneType_int, it_NoneType_str, it_NoneType_tuple, it_NoneType_list, it_NoneType_dict, it_bool_bool, it_bool_int, it_bool_str, it_bool_tuple, it_bool_list, it_bool_dict, it_int_bool, it_int_int, it_int_str, it_int_tuple, it_int_list, it_int_dict, it_str_bool, it_str_int, it_str_str, it_str_tuple, it_str_list, it_str_dict, it_tuple_bool, it_tuple_int, it_tuple_str, it_tuple_tuple, it_tuple_list, it_tuple_dict, it_list_bool, it_list_int, it_list_str, it_list_tuple, it_list_list, it_list_dict, it_dict_bool, it_dict_int, it_dict_str, it_dict_tuple, it_dict_list, it_dict_dict, eq_self, Bool.not_true, Bool.not_false, decide_true, decide_false, true_and, and_true, Option.some.injEq, exists_eq_left, exists_eq_left', exists_eq_right, W.bl.injEq, W.int.injEq, Bool.false_eq_true, Bool.true_eq_false, reduceCtorEq, false_and, exists_false, and_self, forall_const, false_implies, true_implies, if_true, if_false, Int.reduceLE, Int.reduceLT, Int.reduceNeg, Nat.reduceLeDiff, Nat.reduceAdd, Nat.reduceSub, String.reduceEq, String.reduceBEq, String.reduceBNe, wE_mkFX, List.lookup_cons_self, beq_self_eq_true, Option.map_some, Option.map_none, f_Net___init__, fld__letters, putW]
    all_goals
      have hS : St [cc, Cell.ins 21 [("_letters", W.ref 2)], Cell.lst [], Cell.ins 21 [("_letters", W.ref 4)], Cell.lst [], Cell.lst [], Cell.lst []] l2 [] [] :=
        ⟨⟨p2.1, p2.2⟩, ⟨rfl, rfl⟩, ⟨rfl, rfl⟩, rfl, rfl, ⟨by simp, by simp⟩, ⟨by simp, by simp⟩⟩
      refine ⟨by omega, by omega, seen_ok hS ?_⟩
    all_goals
      try simp (config := { dsimp := false }) only [o_bl, o_slv, o_sll, o_op, o_if, o_d2, f_eq, f_ne, o_tup, o_len, o_bls, o_int, o_at, o_app, o_pop0, o_ins, o_cat, f_cnt, o_ty, o_isX, o_xf, o_cX, o_ran, o_sm, o_catchT, o_catchF, wE_oIf, gDivC, gModC, Option.isNone_none, Option.isNone_some, Option.bind_some, Bool.and_true, Bool.true_and, Bool.and_eq_true, decide_eq_true_eq, decide_eq_false_iff_not, v_catT, ln_sc, wE_ok, wE_exc, wE_bad, wE_bind, wS_nx, wS_rt, wS_bk, wS_ct, wS_exc, wS_bad, wS_bSeq, w_bNil, w_sBrk, w_sCnt, w_sIf, w_sRet, w_sRetN, w_sSet, w_sSetL, w_sExp, w_eBin, w_lBin, w_eUn, w_lUn, w_tOf, w_tAnd2, w_tOr2, w_tNot1, w_eAnd, w_eOr, w_eNot, w_eIf, w_eC, w_eTup, w_lLst, w_aNil, w_aCons, w_eIm, w_eAl, w_eCall, w_eFld, w_eM1, w_eM0, w_eM2, w_eMeth, w_ePrp, w_eNew, w_sFldW, w_sDel, w_sRaise1, v_add, v_addS, v_sub, v_mul, v_div, v_mod, v_lt, v_le, v_gt, v_ge, v_isN, v_notN, v_neg, v_int, v_intB, v_abs, v_max2, v_min2, v_eq, v_ne, v_tup, v_seqL, v_bls, v_ints, v_app, v_popAt, v_pop, v_ins, v_cat, v_cnt, w_eIsT, w_eVar, w_eIsX, w_eXf, w_eCallX, w_iRan1, w_iSeq, w_iOwn, w_lComp, w_sFor, w_for0, w_for1, w_gN, w_gSet, w_sTry, w_catch0, w_catch, w_aftX, w_sAsg, w_lCut, w_oNone, w_oSome, w_tYes, dat_cs, dat_non, dat_bl, dat_int, eqv_int, eqv_bool, eqv_cs, eqv_str, eqv_l00, eqv_l10, eqv_t00, eqv_t10, wE_mkFF, r_lstR, r_lstM, r_seqW, r_lstW, r_isL, r_insAt, r_tyW, r_srcW, r_dat, s_im, s_tup, s_lr, s_sc, l_im, l_lr, l_sc, m_im, m_lr, i_im, i_lr, i_sc, c_im, c_tup, c_sc, t_tup, t_im, t_int, t_bl, t_str, t_non, ln_ref, ln_tup, ln_im, ln_lr, ix_ref, ix_tup', ix_im, ix_lr, ix_sc, isN_ref, isN_non, isN_tup, isN_int, isN_bl, isN_str, isN_im, List.map_cons, List.map_nil, List.cons_append, List.nil_append, List.append_nil, List.getElem?_cons_zero, List.getElem?_cons_succ, List.set_cons_zero, List.set_cons_succ, List.replicate_succ, List.replicate_zero, List.length_cons, List.length_nil, List.lookup, il_int, il_bl, il_str, il_non, il_tup, il_im, il_sc, il_ref, il_cl, il_lr, ixN_zero, it_NoneType_bool, it_NoneType_int, it_NoneType_str, it_NoneType_tuple, it_NoneType_list, it_NoneType_dict, it_bool_bool, it_bool_int, it_bool_str, it_bool_tuple, it_bool_list, it_bool_dict, it_int_bool, it_int_int, it_int_str, it_int_tuple, it_int_list, it_int_dict, it_str_bool, it_str_int, it_str_str, it_str_tuple, it_str_list, it_str_dict, it_tuple_bool, it_tuple_int, it_tuple_str, it_tuple_tuple, it_tuple_list, it_tuple_dict, it_list_bool, it_list_int, it_list_str, it_list_tuple, it_list_list, it_list_dict, it_dict_bool, it_dict_int, it_dict_str, it_dict_tuple, it_dict_list, it_dict_dict, eq_self, Bool.not_true, Bool.not_false, decide_true, decide_false, true_and, and_true, Option.some.injEq, exists_eq_left, exists_eq_left', exists_eq_right, W.bl.injEq, W.int.injEq, Bool.false_eq_true, Bool.true_eq_false, reduceCtorEq, false_and, exists_false, and_self, forall_const, false_implies, true_implies, if_true, if_false, Int.reduceLE, Int.reduceLT, Int.reduceNeg, Nat.reduceLeDiff, Nat.reduceAdd, Nat.reduceSub, String.reduceEq, String.reduceBEq, String.reduceBNe, wE_mkFX, List.lookup_cons_self, beq_self_eq_true, Option.map_some, Option.map_none]
      refine ⟨by unfold smallI; simp; omega, ?_⟩
      first
      | (have e3 : r = 3 := e3
         obtain ⟨many, hm, m0, m1⟩ : ∃ m, m = 197 + (3 + r2) % 9 % 4 ∧ 0 ≤ m ∧ m ≤ 200 := ⟨_, rfl, by omega, by omega⟩
         rw [← hm])
      | (obtain ⟨many, hm, m0, m1⟩ : ∃ m, m = (3 + r2) % 9 ∧ 0 ≤ m ∧ m ≤ 200 := ⟨_, rfl, by omega, by omega⟩
         rw [← hm])
      clear hm
      refine forL_inv (Inv (.sc (ns.map W.int)) r many) (by intros; exact trivial) _ 0 _ _ ⟨_, _, _, _, _, _, _, _, _, _, rfl, hS⟩ ?_ ?_
      · rintro i w e s hw ⟨x6, x7, x8, x9, x10, x11, x12, l, L0, L1, rfl, hS⟩
        obtain ⟨n, rfl, n0, n1⟩ := ran_ok hw
        refine ⟨_, _, rfl, ?_⟩
        try simp (config := { dsimp := false }) only [o_bl, o_slv, o_sll, o_op, o_if, o_d2, f_eq, f_ne, o_tup, o_len, o_bls, o_int, o_at, o_app, o_pop0, o_ins, o_cat, f_cnt, o_ty, o_isX, o_xf, o_cX, o_ran, o_sm, o_catchT, o_catchF, wE_oIf, gDivC, gModC, Option.isNone_none, Option.isNone_some, Option.bind_some, Bool.and_true, Bool.true_and, Bool.and_eq_true, decide_eq_true_eq, decide_eq_false_iff_not, v_catT, ln_sc, wE_ok, wE_exc, wE_bad, wE_bind, wS_nx, wS_rt, wS_bk, wS_ct, wS_exc, wS_bad, wS_bSeq, w_bNil, w_sBrk, w_sCnt, w_sIf, w_sRet, w_sRetN, w_sSet, w_sSetL, w_sExp, w_eBin, w_lBin, w_eUn, w_lUn, w_tOf, w_tAnd2, w_tOr2, w_tNot1, w_eAnd, w_eOr, w_eNot, w_eIf, w_eC, w_eTup, w_lLst, w_aNil, w_aCons, w_eIm, w_eAl, w_eCall, w_eFld, w_eM1, w_eM0, w_eM2, w_eMeth, w_ePrp, w_eNew, w_sFldW, w_sDel, w_sRaise1, v_add, v_addS, v_sub, v_mul, v_div, v_mod, v_lt, v_le, v_gt, v_ge, v_isN, v_notN, v_neg, v_int, v_intB, v_abs, v_max2, v_min2, v_eq, v_ne, v_tup, v_seqL, v_bls, v_ints, v_app, v_popAt, v_pop, v_ins, v_cat, v_cnt, w_eIsT, w_eVar, w_eIsX, w_eXf, w_eCallX, w_iRan1, w_iSeq, w_iOwn, w_lComp, w_sFor, w_for0, w_for1, w_gN, w_gSet, w_sTry, w_catch0, w_catch, w_aftX, w_sAsg, w_lCut, w_oNone, w_oSome, w_tYes, dat_cs, dat_non, dat_bl, dat_int, eqv_int, eqv_bool, eqv_cs, eqv_str, eqv_l00, eqv_l10, eqv_t00, eqv_t10, wE_mkFF, r_lstR, r_lstM, r_seqW, r_lstW, r_isL, r_insAt, r_tyW, r_srcW, r_dat, s_im, s_tup, s_lr, s_sc, l_im, l_lr, l_sc, m_im, m_lr, i_im, i_lr, i_sc, c_im, c_tup, c_sc, t_tup, t_im, t_int, t_bl, t_str, t_non, ln_ref, ln_tup, ln_im, ln_lr, ix_ref, ix_tup', ix_im, ix_lr, ix_sc, isN_ref, isN_non, isN_tup, isN_int, isN_bl, isN_str, isN_im, List.map_cons, List.map_nil, List.cons_append, List.nil_append, List.append_nil, List.getElem?_cons_zero, List.getElem?_cons_succ, List.set_cons_zero, List.set_cons_succ, List.replicate_succ, List.replicate_zero, List.length_cons, List.length_nil, List.lookup, il_int, il_bl, il_str, il_non, il_tup, il_im, il_sc, il_ref, il_cl, il_lr, ixN_zero, it_NoneType_bool, it_NoneType_int, it_NoneType_str, it_NoneType_tuple, it_NoneType_list, it_NoneType_dict, it_bool_bool, it_bool_int, it_bool_str, it_bool_tuple, it_bool_list, it_bool_dict, it_int_bool, it_int_int, it_int_str, it_int_tuple, it_int_list, it_int_dict, it_str_bool, it_str_int, it_str_str, it_str_tuple, it_str_list, it_str_dict, it_tuple_bool, it_tuple_int, it_tuple_str, it_tuple_tuple, it_tuple_list, it_tuple_dict, it_list_bool, it_list_int, it_list_str, it_list_tuple, it_list_list, it_list_dict, it_dict_bool, it_dict_int, it_dict_str, it_dict_tuple, it_dict_list, it_dict_dict, eq_self, Bool.not_true, Bool.not_false, decide_true, decide_false, true_and, and_true, Option.some.injEq, exists_eq_left, exists_eq_left', exists_eq_right, W.bl.injEq, W.int.injEq, Bool.false_eq_true, Bool.true_eq_false, reduceCtorEq, false_and, exists_false, and_self, forall_const, false_implies, true_implies, if_true, if_false, Int.reduceLE, Int.reduceLT, Int.reduceNeg, Nat.reduceLeDiff, Nat.reduceAdd, Nat.reduceSub, String.reduceEq, String.reduceBEq, String.reduceBNe, wE_mkFX, List.lookup_cons_self, beq_self_eq_true, Option.map_some, Option.map_none]
        obtain ⟨a, b, c, L, ea, ec, d, ha7, hb7, hc7, fin⟩ := pick hS (w := 0) (by omega) (by omega)
        simp only [ea]
        refine ⟨mul_ok (by omega) (by omega), fun e4 => ⟨mul_ok (by omega) (by omega), ?_⟩, fun e4 => ?_⟩
        all_goals
          try simp (config := { dsimp := false }) only [o_bl, o_slv, o_sll, o_op, o_if, o_d2, f_eq, f_ne, o_tup, o_len, o_bls, o_int, o_at, o_app, o_pop0, o_ins, o_cat, f_cnt, o_ty, o_isX, o_xf, o_cX, o_ran, o_sm, o_catchT, o_catchF, wE_oIf, gDivC, gModC, Option.isNone_none, Option.isNone_some, Option.bind_some, Bool.and_true, Bool.true_and, Bool.and_eq_true, decide_eq_true_eq, decide_eq_false_iff_not, v_catT, ln_sc, wE_ok, wE_exc, wE_bad, wE_bind, wS_nx, wS_rt, wS_bk, wS_ct, wS_exc, wS_bad, wS_bSeq, w_bNil, w_sBrk, w_sCnt, w_sIf, w_sRet, w_sRetN, w_sSet, w_sSetL, w_sExp, w_eBin, w_lBin, w_eUn, w_lUn, w_tOf, w_tAnd2, w_tOr2, w_tNot1, w_eAnd, w_eOr, w_eNot, w_eIf, w_eC, w_eTup, w_lLst, w_aNil, w_aCons, w_eIm, w_eAl, w_eCall, w_eFld, w_eM1, w_eM0, w_eM2, w_eMeth, w_ePrp, w_eNew, w_sFldW, w_sDel, w_sRaise1, v_add, v_addS, v_sub, v_mul, v_div, v_mod, v_lt, v_le, v_gt, v_ge, v_isN, v_notN, v_neg, v_int, v_intB, v_abs, v_max2, v_min2, v_eq, v_ne, v_tup, v_seqL, v_bls, v_ints, v_app, v_popAt, v_pop, v_ins, v_cat, v_cnt, w_eIsT, w_eVar, w_eIsX, w_eXf, w_eCallX, w_iRan1, w_iSeq, w_iOwn, w_lComp, w_sFor, w_for0, w_for1, w_gN, w_gSet, w_sTry, w_catch0, w_catch, w_aftX, w_sAsg, w_lCut, w_oNone, w_oSome, w_tYes, dat_cs, dat_non, dat_bl, dat_int, eqv_int, eqv_bool, eqv_cs, eqv_str, eqv_l00, eqv_l10, eqv_t00, eqv_t10, wE_mkFF, r_lstR, r_lstM, r_seqW, r_lstW, r_isL, r_insAt, r_tyW, r_srcW, r_dat, s_im, s_tup, s_lr, s_sc, l_im, l_lr, l_sc, m_im, m_lr, i_im, i_lr, i_sc, c_im, c_tup, c_sc, t_tup, t_im, t_int, t_bl, t_str, t_non, ln_ref, ln_tup, ln_im, ln_lr, ix_ref, ix_tup', ix_im, ix_lr, ix_sc, isN_ref, isN_non, isN_tup, isN_int, isN_bl, isN_str, isN_im, List.map_cons, List.map_nil, List.cons_append, List.nil_append, List.append_nil, List.getElem?_cons_zero, List.getElem?_cons_succ, List.set_cons_zero, List.set_cons_succ, List.replicate_succ, List.replicate_zero, List.length_cons, List.length_nil, List.lookup, il_int, il_bl, il_str, il_non, il_tup, il_im, il_sc, il_ref, il_cl, il_lr, ixN_zero, it_NoneType_bool, it_NoneType_int, it_NoneType_str, it_NoneType_tuple, it_NoneType_list, it_NoneType_dict, it_bool_bool, it_bool_int, it_bool_str, it_bool_tuple, it_bool_list, it_bool_dict, it_int_bool, it_int_int, it_int_str, it_int_tuple, it_int_list, it_int_dict, it_str_bool, it_str_int, it_str_str, it_str_tuple, it_str_list, it_str_dict, it_tuple_bool, it_tuple_int, it_tuple_str, it_tuple_tuple, it_tuple_list, it_tuple_dict, it_list_bool, it_list_int, it_list_str, it_list_tuple, it_list_list, it_list_dict, it_dict_bool, it_dict_int, it_dict_str, it_dict_tuple, it_dict_list, it_dict_dict, eq_self, Bool.not_true, Bool.not_false, decide_true, decide_false, true_and, and_true, Option.some.injEq, exists_eq_left, exists_eq_left', exists_eq_right, W.bl.injEq, W.int.injEq, Bool.false_eq_true, Bool.true_eq_false, reduceCtorEq, false_and, exists_false, and_self, forall_const, false_implies, true_implies, if_true, if_false, Int.reduceLE, Int.reduceLT, Int.reduceNeg, Nat.reduceLeDiff, Nat.reduceAdd, Nat.reduceSub, String.reduceEq, String.reduceBEq, String.reduceBNe, wE_mkFX, List.lookup_cons_self, beq_self_eq_true, Option.map_some, Option.map_none]
          refine done_ok (.inl rfl) d.nt d.gd.1 d.gd.lr (us := _) rfl rfl ?_
          generalize hD : deed "send" 0 (W.tup _) L = D
          have gf : FlW 7 D.1 ∧ Good D.2 := hD ▸ deed_fl (by
            refine ⟨by simp, ?_⟩
            intro x hx
            simp only [List.mem_cons, List.not_mem_nil, or_false] at hx
            rcases hx with rfl | rfl | rfl | rfl | rfl | rfl | rfl <;> first | exact fl_int | exact fl_cs) d.gd
          try simp (config := { dsimp := false }) only [o_bl, o_slv, o_sll, o_op, o_if, o_d2, f_eq, f_ne, o_tup, o_len, o_bls, o_int, o_at, o_app, o_pop0, o_ins, o_cat, f_cnt, o_ty, o_isX, o_xf, o_cX, o_ran, o_sm, o_catchT, o_catchF, wE_oIf, gDivC, gModC, Option.isNone_none, Option.isNone_some, Option.bind_some, Bool.and_true, Bool.true_and, Bool.and_eq_true, decide_eq_true_eq, decide_eq_false_iff_not, v_catT, ln_sc, wE_ok, wE_exc, wE_bad, wE_bind, wS_nx, wS_rt, wS_bk, wS_ct, wS_exc, wS_bad, wS_bSeq, w_bNil, w_sBrk, w_sCnt, w_sIf, w_sRet, w_sRetN, w_sSet, w_sSetL, w_sExp, w_eBin, w_lBin, w_eUn, w_lUn, w_tOf, w_tAnd2, w_tOr2, w_tNot1, w_eAnd, w_eOr, w_eNot, w_eIf, w_eC, w_eTup, w_lLst, w_aNil, w_aCons, w_eIm, w_eAl, w_eCall, w_eFld, w_eM1, w_eM0, w_eM2, w_eMeth, w_ePrp, w_eNew, w_sFldW, w_sDel, w_sRaise1, v_add, v_addS, v_sub, v_mul, v_div, v_mod, v_lt, v_le, v_gt, v_ge, v_isN, v_notN, v_neg, v_int, v_intB, v_abs, v_max2, v_min2, v_eq, v_ne, v_tup, v_seqL, v_bls, v_ints, v_app, v_popAt, v_pop, v_ins, v_cat, v_cnt, w_eIsT, w_eVar, w_eIsX, w_eXf, w_eCallX, w_iRan1, w_iSeq, w_iOwn, w_lComp, w_sFor, w_for0, w_for1, w_gN, w_gSet, w_sTry, w_catch0, w_catch, w_aftX, w_sAsg, w_lCut, w_oNone, w_oSome, w_tYes, dat_cs, dat_non, dat_bl, dat_int, eqv_int, eqv_bool, eqv_cs, eqv_str, eqv_l00, eqv_l10, eqv_t00, eqv_t10, wE_mkFF, r_lstR, r_lstM, r_seqW, r_lstW, r_isL, r_insAt, r_tyW, r_srcW, r_dat, s_im, s_tup, s_lr, s_sc, l_im, l_lr, l_sc, m_im, m_lr, i_im, i_lr, i_sc, c_im, c_tup, c_sc, t_tup, t_im, t_int, t_bl, t_str, t_non, ln_ref, ln_tup, ln_im, ln_lr, ix_ref, ix_tup', ix_im, ix_lr, ix_sc, isN_ref, isN_non, isN_tup, isN_int, isN_bl, isN_str, isN_im, List.map_cons, List.map_nil, List.cons_append, List.nil_append, List.append_nil, List.getElem?_cons_zero, List.getElem?_cons_succ, List.set_cons_zero, List.set_cons_succ, List.replicate_succ, List.replicate_zero, List.length_cons, List.length_nil, List.lookup, il_int, il_bl, il_str, il_non, il_tup, il_im, il_sc, il_ref, il_cl, il_lr, ixN_zero, it_NoneType_bool, it_NoneType_int, it_NoneType_str, it_NoneType_tuple, it_NoneType_list, it_NoneType_dict, it_bool_bool, it_bool_int, it_bool_str, it_bool_tuple, it_bool_list, it_bool_dict, it_int_bool, it_int_int, it_int_str, it_int_tuple, it_int_list, it_int_dict, it_str_bool, it_str_int, it_str_str, it_str_tuple, it_str_list, it_str_dict, it_tuple_bool, it_tuple_int, it_tuple_str, it_tuple_tuple, it_tuple_list, it_tuple_dict, it_list_bool, it_list_int, it_list_str, it_list_tuple, it_list_list, it_list_dict, it_dict_bool, it_dict_int, it_dict_str, it_dict_tuple, it_dict_list, it_dict_dict, eq_self, Bool.not_true, Bool.not_false, decide_true, decide_false, true_and, and_true, Option.some.injEq, exists_eq_left, exists_eq_left', exists_eq_right, W.bl.injEq, W.int.injEq, Bool.false_eq_true, Bool.true_eq_false, reduceCtorEq, false_and, exists_false, and_self, forall_const, false_implies, true_implies, if_true, if_false, Int.reduceLE, Int.reduceLT, Int.reduceNeg, Nat.reduceLeDiff, Nat.reduceAdd, Nat.reduceSub, String.reduceEq, String.reduceBEq, String.reduceBNe, wE_mkFX, List.lookup_cons_self, beq_self_eq_true, Option.map_some, Option.map_none, isLr_fl gf.1, ec]
          refine due_ok (.inl rfl) (by rw [List.getElem?_set_ne d.bc]; exact d.ls) d.gd.1 d.gd.lr rfl ?_
          rw [hD]
          try simp (config := { dsimp := false }) only [o_bl, o_slv, o_sll, o_op, o_if, o_d2, f_eq, f_ne, o_tup, o_len, o_bls, o_int, o_at, o_app, o_pop0, o_ins, o_cat, f_cnt, o_ty, o_isX, o_xf, o_cX, o_ran, o_sm, o_catchT, o_catchF, wE_oIf, gDivC, gModC, Option.isNone_none, Option.isNone_some, Option.bind_some, Bool.and_true, Bool.true_and, Bool.and_eq_true, decide_eq_true_eq, decide_eq_false_iff_not, v_catT, ln_sc, wE_ok, wE_exc, wE_bad, wE_bind, wS_nx, wS_rt, wS_bk, wS_ct, wS_exc, wS_bad, wS_bSeq, w_bNil, w_sBrk, w_sCnt, w_sIf, w_sRet, w_sRetN, w_sSet, w_sSetL, w_sExp, w_eBin, w_lBin, w_eUn, w_lUn, w_tOf, w_tAnd2, w_tOr2, w_tNot1, w_eAnd, w_eOr, w_eNot, w_eIf, w_eC, w_eTup, w_lLst, w_aNil, w_aCons, w_eIm, w_eAl, w_eCall, w_eFld, w_eM1, w_eM0, w_eM2, w_eMeth, w_ePrp, w_eNew, w_sFldW, w_sDel, w_sRaise1, v_add, v_addS, v_sub, v_mul, v_div, v_mod, v_lt, v_le, v_gt, v_ge, v_isN, v_notN, v_neg, v_int, v_intB, v_abs, v_max2, v_min2, v_eq, v_ne, v_tup, v_seqL, v_bls, v_ints, v_app, v_popAt, v_pop, v_ins, v_cat, v_cnt, w_eIsT, w_eVar, w_eIsX, w_eXf, w_eCallX, w_iRan1, w_iSeq, w_iOwn, w_lComp, w_sFor, w_for0, w_for1, w_gN, w_gSet, w_sTry, w_catch0, w_catch, w_aftX, w_sAsg, w_lCut, w_oNone, w_oSome, w_tYes, dat_cs, dat_non, dat_bl, dat_int, eqv_int, eqv_bool, eqv_cs, eqv_str, eqv_l00, eqv_l10, eqv_t00, eqv_t10, wE_mkFF, r_lstR, r_lstM, r_seqW, r_lstW, r_isL, r_insAt, r_tyW, r_srcW, r_dat, s_im, s_tup, s_lr, s_sc, l_im, l_lr, l_sc, m_im, m_lr, i_im, i_lr, i_sc, c_im, c_tup, c_sc, t_tup, t_im, t_int, t_bl, t_str, t_non, ln_ref, ln_tup, ln_im, ln_lr, ix_ref, ix_tup', ix_im, ix_lr, ix_sc, isN_ref, isN_non, isN_tup, isN_int, isN_bl, isN_str, isN_im, List.map_cons, List.map_nil, List.cons_append, List.nil_append, List.append_nil, List.getElem?_cons_zero, List.getElem?_cons_succ, List.set_cons_zero, List.set_cons_succ, List.replicate_succ, List.replicate_zero, List.length_cons, List.length_nil, List.lookup, il_int, il_bl, il_str, il_non, il_tup, il_im, il_sc, il_ref, il_cl, il_lr, ixN_zero, it_NoneType_bool, it_NoneType_int, it_NoneType_str, it_NoneType_tuple, it_NoneType_list, it_NoneType_dict, it_bool_bool, it_bool_int, it_bool_str, it_bool_tuple, it_bool_list, it_bool_dict, it_int_bool, it_int_int, it_int_str, it_int_tuple, it_int_list, it_int_dict, it_str_bool, it_str_int, it_str_str, it_str_tuple, it_str_list, it_str_dict, it_tuple_bool, it_tuple_int, it_tuple_str, it_tuple_tuple, it_tuple_list, it_tuple_dict, it_list_bool, it_list_int, it_list_str, it_list_tuple, it_list_list, it_list_dict, it_dict_bool, it_dict_int, it_dict_str, it_dict_tuple, it_dict_list, it_dict_dict, eq_self, Bool.not_true, Bool.not_false, decide_true, decide_false, true_and, and_true, Option.some.injEq, exists_eq_left, exists_eq_left', exists_eq_right, W.bl.injEq, W.int.injEq, Bool.false_eq_true, Bool.true_eq_false, reduceCtorEq, false_and, exists_false, and_self, forall_const, false_implies, true_implies, if_true, if_false, Int.reduceLE, Int.reduceLT, Int.reduceNeg, Nat.reduceLeDiff, Nat.reduceAdd, Nat.reduceSub, String.reduceEq, String.reduceBEq, String.reduceBNe, wE_mkFX, List.lookup_cons_self, beq_self_eq_true, Option.map_some, Option.map_none, isLr_fl gf.1]
          refine same_ok 7 gf.1 ?_
          try simp (config := { dsimp := false }) only [o_bl, o_slv, o_sll, o_op, o_if, o_d2, f_eq, f_ne, o_tup, o_len, o_bls, o_int, o_at, o_app, o_pop0, o_ins, o_cat, f_cnt, o_ty, o_isX, o_xf, o_cX, o_ran, o_sm, o_catchT, o_catchF, wE_oIf, gDivC, gModC, Option.isNone_none, Option.isNone_some, Option.bind_some, Bool.and_true, Bool.true_and, Bool.and_eq_true, decide_eq_true_eq, decide_eq_false_iff_not, v_catT, ln_sc, wE_ok, wE_exc, wE_bad, wE_bind, wS_nx, wS_rt, wS_bk, wS_ct, wS_exc, wS_bad, wS_bSeq, w_bNil, w_sBrk, w_sCnt, w_sIf, w_sRet, w_sRetN, w_sSet, w_sSetL, w_sExp, w_eBin, w_lBin, w_eUn, w_lUn, w_tOf, w_tAnd2, w_tOr2, w_tNot1, w_eAnd, w_eOr, w_eNot, w_eIf, w_eC, w_eTup, w_lLst, w_aNil, w_aCons, w_eIm, w_eAl, w_eCall, w_eFld, w_eM1, w_eM0, w_eM2, w_eMeth, w_ePrp, w_eNew, w_sFldW, w_sDel, w_sRaise1, v_add, v_addS, v_sub, v_mul, v_div, v_mod, v_lt, v_le, v_gt, v_ge, v_isN, v_notN, v_neg, v_int, v_intB, v_abs, v_max2, v_min2, v_eq, v_ne, v_tup, v_seqL, v_bls, v_ints, v_app, v_popAt, v_pop, v_ins, v_cat, v_cnt, w_eIsT, w_eVar, w_eIsX, w_eXf, w_eCallX, w_iRan1, w_iSeq, w_iOwn, w_lComp, w_sFor, w_for0, w_for1, w_gN, w_gSet, w_sTry, w_catch0, w_catch, w_aftX, w_sAsg, w_lCut, w_oNone, w_oSome, w_tYes, dat_cs, dat_non, dat_bl, dat_int, eqv_int, eqv_bool, eqv_cs, eqv_str, eqv_l00, eqv_l10, eqv_t00, eqv_t10, wE_mkFF, r_lstR, r_lstM, r_seqW, r_lstW, r_isL, r_insAt, r_tyW, r_srcW, r_dat, s_im, s_tup, s_lr, s_sc, l_im, l_lr, l_sc, m_im, m_lr, i_im, i_lr, i_sc, c_im, c_tup, c_sc, t_tup, t_im, t_int, t_bl, t_str, t_non, ln_ref, ln_tup, ln_im, ln_lr, ix_ref, ix_tup', ix_im, ix_lr, ix_sc, isN_ref, isN_non, isN_tup, isN_int, isN_bl, isN_str, isN_im, List.map_cons, List.map_nil, List.cons_append, List.nil_append, List.append_nil, List.getElem?_cons_zero, List.getElem?_cons_succ, List.set_cons_zero, List.set_cons_succ, List.replicate_succ, List.replicate_zero, List.length_cons, List.length_nil, List.lookup, il_int, il_bl, il_str, il_non, il_tup, il_im, il_sc, il_ref, il_cl, il_lr, ixN_zero, it_NoneType_bool, it_NoneType_int, it_NoneType_str, it_NoneType_tuple, it_NoneType_list, it_NoneType_dict, it_bool_bool, it_bool_int, it_bool_str, it_bool_tuple, it_bool_list, it_bool_dict, it_int_bool, it_int_int, it_int_str, it_int_tuple, it_int_list, it_int_dict, it_str_bool, it_str_int, it_str_str, it_str_tuple, it_str_list, it_str_dict, it_tuple_bool, it_tuple_int, it_tuple_str, it_tuple_tuple, it_tuple_list, it_tuple_dict, it_list_bool, it_list_int, it_list_str, it_list_tuple, it_list_list, it_list_dict, it_dict_bool, it_dict_int, it_dict_str, it_dict_tuple, it_dict_list, it_dict_dict, eq_self, Bool.not_true, Bool.not_false, decide_true, decide_false, true_and, and_true, Option.some.injEq, exists_eq_left, exists_eq_left', exists_eq_right, W.bl.injEq, W.int.injEq, Bool.false_eq_true, Bool.true_eq_false, reduceCtorEq, false_and, exists_false, and_self, forall_const, false_implies, true_implies, if_true, if_false, Int.reduceLE, Int.reduceLT, Int.reduceNeg, Nat.reduceLeDiff, Nat.reduceAdd, Nat.reduceSub, String.reduceEq, String.reduceBEq, String.reduceBNe, wE_mkFX, List.lookup_cons_self, beq_self_eq_true, Option.map_some, Option.map_none]
          obtain ⟨L0', L1', hS'⟩ := fin _ _ _ (d.two gf.2) fun i _ _ i3 i4 => by rw [List.getElem?_set_ne (Ne.symm i4), List.getElem?_set_ne (Ne.symm i3)]
          exact ⟨_, _, _, _, _, _, _, _, _, _, rfl, hS'⟩
      · rintro e s ⟨x6, x7, x8, x9, x10, x11, x12, l, L0, L1, rfl, hS⟩
        try simp (config := { dsimp := false }) only [o_bl, o_slv, o_sll, o_op, o_if, o_d2, f_eq, f_ne, o_tup, o_len, o_bls, o_int, o_at, o_app, o_pop0, o_ins, o_cat, f_cnt, o_ty, o_isX, o_xf, o_cX, o_ran, o_sm, o_catchT, o_catchF, wE_oIf, gDivC, gModC, Option.isNone_none, Option.isNone_some, Option.bind_some, Bool.and_true, Bool.true_and, Bool.and_eq_true, decide_eq_true_eq, decide_eq_false_iff_not, v_catT, ln_sc, wE_ok, wE_exc, wE_bad, wE_bind, wS_nx, wS_rt, wS_bk, wS_ct, wS_exc, wS_bad, wS_bSeq, w_bNil, w_sBrk, w_sCnt, w_sIf, w_sRet, w_sRetN, w_sSet, w_sSetL, w_sExp, w_eBin, w_lBin, w_eUn, w_lUn, w_tOf, w_tAnd2, w_tOr2, w_tNot1, w_eAnd, w_eOr, w_eNot, w_eIf, w_eC, w_eTup, w_lLst, w_aNil, w_aCons, w_eIm, w_eAl, w_eCall, w_eFld, w_eM1, w_eM0, w_eM2, w_eMeth, w_ePrp, w_eNew, w_sFldW, w_sDel, w_sRaise1, v_add, v_addS, v_sub, v_mul, v_div, v_mod, v_lt, v_le, v_gt, v_ge, v_isN, v_notN, v_neg, v_int, v_intB, v_abs, v_max2, v_min2, v_eq, v_ne, v_tup, v_seqL, v_bls, v_ints, v_app, v_popAt, v_pop, v_ins, v_cat, v_cnt, w_eIsT, w_eVar, w_eIsX, w_eXf, w_eCallX, w_iRan1, w_iSeq, w_iOwn, w_lComp, w_sFor, w_for0, w_for1, w_gN, w_gSet, w_sTry, w_catch0, w_catch, w_aftX, w_sAsg, w_lCut, w_oNone, w_oSome, w_tYes, dat_cs, dat_non, dat_bl, dat_int, eqv_int, eqv_bool, eqv_cs, eqv_str, eqv_l00, eqv_l10, eqv_t00, eqv_t10, wE_mkFF, r_lstR, r_lstM, r_seqW, r_lstW, r_isL, r_insAt, r_tyW, r_srcW, r_dat, s_im, s_tup, s_lr, s_sc, l_im, l_lr, l_sc, m_im, m_lr, i_im, i_lr, i_sc, c_im, c_tup, c_sc, t_tup, t_im, t_int, t_bl, t_str, t_non, ln_ref, ln_tup, ln_im, ln_lr, ix_ref, ix_tup', ix_im, ix_lr, ix_sc, isN_ref, isN_non, isN_tup, isN_int, isN_bl, isN_str, isN_im, List.map_cons, List.map_nil, List.cons_append, List.nil_append, List.append_nil, List.getElem?_cons_zero, List.getElem?_cons_succ, List.set_cons_zero, List.set_cons_succ, List.replicate_succ, List.replicate_zero, List.length_cons, List.length_nil, List.lookup, il_int, il_bl, il_str, il_non, il_tup, il_im, il_sc, il_ref, il_cl, il_lr, ixN_zero, it_NoneType_bool, it_NoneType_int, it_NoneType_str, it_NoneType_tuple, it_NoneType_list, it_NoneType_dict, it_bool_bool, it_bool_int, it_bool_str, it_bool_tuple, it_bool_list, it_bool_dict, it_int_bool, it_int_int, it_int_str, it_int_tuple, it_int_list, it_int_dict, it_str_bool, it_str_int, it_str_str, it_str_tuple, it_str_list, it_str_dict, it_tuple_bool, it_tuple_int, it_tuple_str, it_tuple_tuple, it_tuple_list, it_tuple_dict, it_list_bool, it_list_int, it_list_str, it_list_tuple, it_list_list, it_list_dict, it_dict_bool, it_dict_int, it_dict_str, it_dict_tuple, it_dict_list, it_dict_dict, eq_self, Bool.not_true, Bool.not_false, decide_true, decide_false, true_and, and_true, Option.some.injEq, exists_eq_left, exists_eq_left', exists_eq_right, W.bl.injEq, W.int.injEq, Bool.false_eq_true, Bool.true_eq_false, reduceCtorEq, false_and, exists_false, and_self, forall_const, false_implies, true_implies, if_true, if_false, Int.reduceLE, Int.reduceLT, Int.reduceNeg, Nat.reduceLeDiff, Nat.reduceAdd, Nat.reduceSub, String.reduceEq, String.reduceBEq, String.reduceBNe, wE_mkFX, List.lookup_cons_self, beq_self_eq_true, Option.map_some, Option.map_none]
        refine ⟨by decide, ?_⟩
        refine forL_inv (Inv (.sc (ns.map W.int)) r many) (by intros; exact trivial) _ 0 _ _ ⟨_, _, _, _, _, _, _, _, _, _, rfl, hS⟩ ?_ ?_
        · rintro i w e s hw ⟨x6, x7, x8, x9, x10, x11, x12, l, L0, L1, rfl, hS⟩
          obtain ⟨n, rfl, n0, n1⟩ := ran_ok hw
          have n2 : n < 14 := n1
          refine ⟨_, _, rfl, ?_⟩
          try simp (config := { dsimp := false }) only [o_bl, o_slv, o_sll, o_op, o_if, o_d2, f_eq, f_ne, o_tup, o_len, o_bls, o_int, o_at, o_app, o_pop0, o_ins, o_cat, f_cnt, o_ty, o_isX, o_xf, o_cX, o_ran, o_sm, o_catchT, o_catchF, wE_oIf, gDivC, gModC, Option.isNone_none, Option.isNone_some, Option.bind_some, Bool.and_true, Bool.true_and, Bool.and_eq_true, decide_eq_true_eq, decide_eq_false_iff_not, v_catT, ln_sc, wE_ok, wE_exc, wE_bad, wE_bind, wS_nx, wS_rt, wS_bk, wS_ct, wS_exc, wS_bad, wS_bSeq, w_bNil, w_sBrk, w_sCnt, w_sIf, w_sRet, w_sRetN, w_sSet, w_sSetL, w_sExp, w_eBin, w_lBin, w_eUn, w_lUn, w_tOf, w_tAnd2, w_tOr2, w_tNot1, w_eAnd, w_eOr, w_eNot, w_eIf, w_eC, w_eTup, w_lLst, w_aNil, w_aCons, w_eIm, w_eAl, w_eCall, w_eFld, w_eM1, w_eM0, w_eM2, w_eMeth, w_ePrp, w_eNew, w_sFldW, w_sDel, w_sRaise1, v_add, v_addS, v_sub, v_mul, v_div, v_mod, v_lt, v_le, v_gt, v_ge, v_isN, v_notN, v_neg, v_int, v_intB, v_abs, v_max2, v_min2, v_eq, v_ne, v_tup, v_seqL, v_bls, v_ints, v_app, v_popAt, v_pop, v_ins, v_cat, v_cnt, w_eIsT, w_eVar, w_eIsX, w_eXf, w_eCallX, w_iRan1, w_iSeq, w_iOwn, w_lComp, w_sFor, w_for0, w_for1, w_gN, w_gSet, w_sTry, w_catch0, w_catch, w_aftX, w_sAsg, w_lCut, w_oNone, w_oSome, w_tYes, dat_cs, dat_non, dat_bl, dat_int, eqv_int, eqv_bool, eqv_cs, eqv_str, eqv_l00, eqv_l10, eqv_t00, eqv_t10, wE_mkFF, r_lstR, r_lstM, r_seqW, r_lstW, r_isL, r_insAt, r_tyW, r_srcW, r_dat, s_im, s_tup, s_lr, s_sc, l_im, l_lr, l_sc, m_im, m_lr, i_im, i_lr, i_sc, c_im, c_tup, c_sc, t_tup, t_im, t_int, t_bl, t_str, t_non, ln_ref, ln_tup, ln_im, ln_lr, ix_ref, ix_tup', ix_im, ix_lr, ix_sc, isN_ref, isN_non, isN_tup, isN_int, isN_bl, isN_str, isN_im, List.map_cons, List.map_nil, List.cons_append, List.nil_append, List.append_nil, List.getElem?_cons_zero, List.getElem?_cons_succ, List.set_cons_zero, List.set_cons_succ, List.replicate_succ, List.replicate_zero, List.length_cons, List.length_nil, List.lookup, il_int, il_bl, il_str, il_non, il_tup, il_im, il_sc, il_ref, il_cl, il_lr, ixN_zero, it_NoneType_bool, it_NoneType_int, it_NoneType_str, it_NoneType_tuple, it_NoneType_list, it_NoneType_dict, it_bool_bool, it_bool_int, it_bool_str, it_bool_tuple, it_bool_list, it_bool_dict, it_int_bool, it_int_int, it_int_str, it_int_tuple, it_int_list, it_int_dict, it_str_bool, it_str_int, it_str_str, it_str_tuple, it_str_list, it_str_dict, it_tuple_bool, it_tuple_int, it_tuple_str, it_tuple_tuple, it_tuple_list, it_tuple_dict, it_list_bool, it_list_int, it_list_str, it_list_tuple, it_list_list, it_list_dict, it_dict_bool, it_dict_int, it_dict_str, it_dict_tuple, it_dict_list, it_dict_dict, eq_self, Bool.not_true, Bool.not_false, decide_true, decide_false, true_and, and_true, Option.some.injEq, exists_eq_left, exists_eq_left', exists_eq_right, W.bl.injEq, W.int.injEq, Bool.false_eq_true, Bool.true_eq_false, reduceCtorEq, false_and, exists_false, and_self, forall_const, false_implies, true_implies, if_true, if_false, Int.reduceLE, Int.reduceLT, Int.reduceNeg, Nat.reduceLeDiff, Nat.reduceAdd, Nat.reduceSub, String.reduceEq, String.reduceBEq, String.reduceBNe, wE_mkFX, List.lookup_cons_self, beq_self_eq_true, Option.map_some, Option.map_none]
          refine drawA hS.po (by omega) (by omega) fun r3 l3 s3 r30 r31 p3 m3 => ?_
          have hS := hS.sm m3 p3
          obtain ⟨k, hk, ek⟩ := word_ok (x := (n + r3) % 5) (by omega) (by omega)
          try simp (config := { dsimp := false }) only [o_bl, o_slv, o_sll, o_op, o_if, o_d2, f_eq, f_ne, o_tup, o_len, o_bls, o_int, o_at, o_app, o_pop0, o_ins, o_cat, f_cnt, o_ty, o_isX, o_xf, o_cX, o_ran, o_sm, o_catchT, o_catchF, wE_oIf, gDivC, gModC, Option.isNone_none, Option.isNone_some, Option.bind_some, Bool.and_true, Bool.true_and, Bool.and_eq_true, decide_eq_true_eq, decide_eq_false_iff_not, v_catT, ln_sc, wE_ok, wE_exc, wE_bad, wE_bind, wS_nx, wS_rt, wS_bk, wS_ct, wS_exc, wS_bad, wS_bSeq, w_bNil, w_sBrk, w_sCnt, w_sIf, w_sRet, w_sRetN, w_sSet, w_sSetL, w_sExp, w_eBin, w_lBin, w_eUn, w_lUn, w_tOf, w_tAnd2, w_tOr2, w_tNot1, w_eAnd, w_eOr, w_eNot, w_eIf, w_eC, w_eTup, w_lLst, w_aNil, w_aCons, w_eIm, w_eAl, w_eCall, w_eFld, w_eM1, w_eM0, w_eM2, w_eMeth, w_ePrp, w_eNew, w_sFldW, w_sDel, w_sRaise1, v_add, v_addS, v_sub, v_mul, v_div, v_mod, v_lt, v_le, v_gt, v_ge, v_isN, v_notN, v_neg, v_int, v_intB, v_abs, v_max2, v_min2, v_eq, v_ne, v_tup, v_seqL, v_bls, v_ints, v_app, v_popAt, v_pop, v_ins, v_cat, v_cnt, w_eIsT, w_eVar, w_eIsX, w_eXf, w_eCallX, w_iRan1, w_iSeq, w_iOwn, w_lComp, w_sFor, w_for0, w_for1, w_gN, w_gSet, w_sTry, w_catch0, w_catch, w_aftX, w_sAsg, w_lCut, w_oNone, w_oSome, w_tYes, dat_cs, dat_non, dat_bl, dat_int, eqv_int, eqv_bool, eqv_cs, eqv_str, eqv_l00, eqv_l10, eqv_t00, eqv_t10, wE_mkFF, r_lstR, r_lstM, r_seqW, r_lstW, r_isL, r_insAt, r_tyW, r_srcW, r_dat, s_im, s_tup, s_lr, s_sc, l_im, l_lr, l_sc, m_im, m_lr, i_im, i_lr, i_sc, c_im, c_tup, c_sc, t_tup, t_im, t_int, t_bl, t_str, t_non, ln_ref, ln_tup, ln_im, ln_lr, ix_ref, ix_tup', ix_im, ix_lr, ix_sc, isN_ref, isN_non, isN_tup, isN_int, isN_bl, isN_str, isN_im, List.map_cons, List.map_nil, List.cons_append, List.nil_append, List.append_nil, List.getElem?_cons_zero, List.getElem?_cons_succ, List.set_cons_zero, List.set_cons_succ, List.replicate_succ, List.replicate_zero, List.length_cons, List.length_nil, List.lookup, il_int, il_bl, il_str, il_non, il_tup, il_im, il_sc, il_ref, il_cl, il_lr, ixN_zero, it_NoneType_bool, it_NoneType_int, it_NoneType_str, it_NoneType_tuple, it_NoneType_list, it_NoneType_dict, it_bool_bool, it_bool_int, it_bool_str, it_bool_tuple, it_bool_list, it_bool_dict, it_int_bool, it_int_int, it_int_str, it_int_tuple, it_int_list, it_int_dict, it_str_bool, it_str_int, it_str_str, it_str_tuple, it_str_list, it_str_dict, it_tuple_bool, it_tuple_int, it_tuple_str, it_tuple_tuple, it_tuple_list, it_tuple_dict, it_list_bool, it_list_int, it_list_str, it_list_tuple, it_list_list, it_list_dict, it_dict_bool, it_dict_int, it_dict_str, it_dict_tuple, it_dict_list, it_dict_dict, eq_self, Bool.not_true, Bool.not_false, decide_true, decide_false, true_and, and_true, Option.some.injEq, exists_eq_left, exists_eq_left', exists_eq_right, W.bl.injEq, W.int.injEq, Bool.false_eq_true, Bool.true_eq_false, reduceCtorEq, false_and, exists_false, and_self, forall_const, false_implies, true_implies, if_true, if_false, Int.reduceLE, Int.reduceLT, Int.reduceNeg, Nat.reduceLeDiff, Nat.reduceAdd, Nat.reduceSub, String.reduceEq, String.reduceBEq, String.reduceBNe, wE_mkFX, List.lookup_cons_self, beq_self_eq_true, Option.map_some, Option.map_none, ek]
          refine ⟨fun _ => ⟨fun _ => ?_, fun _ => ?_⟩, fun _ => ?_⟩
          all_goals
            first
            | refine deed_ok (.inl rfl) hS n0 (by omega) fun s' l' L0' L1' hS' => ?_
            | refine deed_ok hk hS n0 (by omega) fun s' l' L0' L1' hS' => ?_
            try simp (config := { dsimp := false }) only [o_bl, o_slv, o_sll, o_op, o_if, o_d2, f_eq, f_ne, o_tup, o_len, o_bls, o_int, o_at, o_app, o_pop0, o_ins, o_cat, f_cnt, o_ty, o_isX, o_xf, o_cX, o_ran, o_sm, o_catchT, o_catchF, wE_oIf, gDivC, gModC, Option.isNone_none, Option.isNone_some, Option.bind_some, Bool.and_true, Bool.true_and, Bool.and_eq_true, decide_eq_true_eq, decide_eq_false_iff_not, v_catT, ln_sc, wE_ok, wE_exc, wE_bad, wE_bind, wS_nx, wS_rt, wS_bk, wS_ct, wS_exc, wS_bad, wS_bSeq, w_bNil, w_sBrk, w_sCnt, w_sIf, w_sRet, w_sRetN, w_sSet, w_sSetL, w_sExp, w_eBin, w_lBin, w_eUn, w_lUn, w_tOf, w_tAnd2, w_tOr2, w_tNot1, w_eAnd, w_eOr, w_eNot, w_eIf, w_eC, w_eTup, w_lLst, w_aNil, w_aCons, w_eIm, w_eAl, w_eCall, w_eFld, w_eM1, w_eM0, w_eM2, w_eMeth, w_ePrp, w_eNew, w_sFldW, w_sDel, w_sRaise1, v_add, v_addS, v_sub, v_mul, v_div, v_mod, v_lt, v_le, v_gt, v_ge, v_isN, v_notN, v_neg, v_int, v_intB, v_abs, v_max2, v_min2, v_eq, v_ne, v_tup, v_seqL, v_bls, v_ints, v_app, v_popAt, v_pop, v_ins, v_cat, v_cnt, w_eIsT, w_eVar, w_eIsX, w_eXf, w_eCallX, w_iRan1, w_iSeq, w_iOwn, w_lComp, w_sFor, w_for0, w_for1, w_gN, w_gSet, w_sTry, w_catch0, w_catch, w_aftX, w_sAsg, w_lCut, w_oNone, w_oSome, w_tYes, dat_cs, dat_non, dat_bl, dat_int, eqv_int, eqv_bool, eqv_cs, eqv_str, eqv_l00, eqv_l10, eqv_t00, eqv_t10, wE_mkFF, r_lstR, r_lstM, r_seqW, r_lstW, r_isL, r_insAt, r_tyW, r_srcW, r_dat, s_im, s_tup, s_lr, s_sc, l_im, l_lr, l_sc, m_im, m_lr, i_im, i_lr, i_sc, c_im, c_tup, c_sc, t_tup, t_im, t_int, t_bl, t_str, t_non, ln_ref, ln_tup, ln_im, ln_lr, ix_ref, ix_tup', ix_im, ix_lr, ix_sc, isN_ref, isN_non, isN_tup, isN_int, isN_bl, isN_str, isN_im, List.map_cons, List.map_nil, List.cons_append, List.nil_append, List.append_nil, List.getElem?_cons_zero, List.getElem?_cons_succ, List.set_cons_zero, List.set_cons_succ, List.replicate_succ, List.replicate_zero, List.length_cons, List.length_nil, List.lookup, il_int, il_bl, il_str, il_non, il_tup, il_im, il_sc, il_ref, il_cl, il_lr, ixN_zero, it_NoneType_bool, it_NoneType_int, it_NoneType_str, it_NoneType_tuple, it_NoneType_list, it_NoneType_dict, it_bool_bool, it_bool_int, it_bool_str, it_bool_tuple, it_bool_list, it_bool_dict, it_int_bool, it_int_int, it_int_str, it_int_tuple, it_int_list, it_int_dict, it_str_bool, it_str_int, it_str_str, it_str_tuple, it_str_list, it_str_dict, it_tuple_bool, it_tuple_int, it_tuple_str, it_tuple_tuple, it_tuple_list, it_tuple_dict, it_list_bool, it_list_int, it_list_str, it_list_tuple, it_list_list, it_list_dict, it_dict_bool, it_dict_int, it_dict_str, it_dict_tuple, it_dict_list, it_dict_dict, eq_self, Bool.not_true, Bool.not_false, decide_true, decide_false, true_and, and_true, Option.some.injEq, exists_eq_left, exists_eq_left', exists_eq_right, W.bl.injEq, W.int.injEq, Bool.false_eq_true, Bool.true_eq_false, reduceCtorEq, false_and, exists_false, and_self, forall_const, false_implies, true_implies, if_true, if_false, Int.reduceLE, Int.reduceLT, Int.reduceNeg, Nat.reduceLeDiff, Nat.reduceAdd, Nat.reduceSub, String.reduceEq, String.reduceBEq, String.reduceBNe, wE_mkFX, List.lookup_cons_self, beq_self_eq_true, Option.map_some, Option.map_none]
            exact ⟨_, _, _, _, _, _, _, _, _, _, rfl, hS'⟩
        · rintro e s ⟨x6, x7, x8, x9, x10, x11, x12, l, L0, L1, rfl, hS⟩
          try simp (config := { dsimp := false }) only [o_bl, o_slv, o_sll, o_op, o_if, o_d2, f_eq, f_ne, o_tup, o_len, o_bls, o_int, o_at, o_app, o_pop0, o_ins, o_cat, f_cnt, o_ty, o_isX, o_xf, o_cX, o_ran, o_sm, o_catchT, o_catchF, wE_oIf, gDivC, gModC, Option.isNone_none, Option.isNone_some, Option.bind_some, Bool.and_true, Bool.true_and, Bool.and_eq_true, decide_eq_true_eq, decide_eq_false_iff_not, v_catT, ln_sc, wE_ok, wE_exc, wE_bad, wE_bind, wS_nx, wS_rt, wS_bk, wS_ct, wS_exc, wS_bad, wS_bSeq, w_bNil, w_sBrk, w_sCnt, w_sIf, w_sRet, w_sRetN, w_sSet, w_sSetL, w_sExp, w_eBin, w_lBin, w_eUn, w_lUn, w_tOf, w_tAnd2, w_tOr2, w_tNot1, w_eAnd, w_eOr, w_eNot, w_eIf, w_eC, w_eTup, w_lLst, w_aNil, w_aCons, w_eIm, w_eAl, w_eCall, w_eFld, w_eM1, w_eM0, w_eM2, w_eMeth, w_ePrp, w_eNew, w_sFldW, w_sDel, w_sRaise1, v_add, v_addS, v_sub, v_mul, v_div, v_mod, v_lt, v_le, v_gt, v_ge, v_isN, v_notN, v_neg, v_int, v_intB, v_abs, v_max2, v_min2, v_eq, v_ne, v_tup, v_seqL, v_bls, v_ints, v_app, v_popAt, v_pop, v_ins, v_cat, v_cnt, w_eIsT, w_eVar, w_eIsX, w_eXf, w_eCallX, w_iRan1, w_iSeq, w_iOwn, w_lComp, w_sFor, w_for0, w_for1, w_gN, w_gSet, w_sTry, w_catch0, w_catch, w_aftX, w_sAsg, w_lCut, w_oNone, w_oSome, w_tYes, dat_cs, dat_non, dat_bl, dat_int, eqv_int, eqv_bool, eqv_cs, eqv_str, eqv_l00, eqv_l10, eqv_t00, eqv_t10, wE_mkFF, r_lstR, r_lstM, r_seqW, r_lstW, r_isL, r_insAt, r_tyW, r_srcW, r_dat, s_im, s_tup, s_lr, s_sc, l_im, l_lr, l_sc, m_im, m_lr, i_im, i_lr, i_sc, c_im, c_tup, c_sc, t_tup, t_im, t_int, t_bl, t_str, t_non, ln_ref, ln_tup, ln_im, ln_lr, ix_ref, ix_tup', ix_im, ix_lr, ix_sc, isN_ref, isN_non, isN_tup, isN_int, isN_bl, isN_str, isN_im, List.map_cons, List.map_nil, List.cons_append, List.nil_append, List.append_nil, List.getElem?_cons_zero, List.getElem?_cons_succ, List.set_cons_zero, List.set_cons_succ, List.replicate_succ, List.replicate_zero, List.length_cons, List.length_nil, List.lookup, il_int, il_bl, il_str, il_non, il_tup, il_im, il_sc, il_ref, il_cl, il_lr, ixN_zero, it_NoneType_bool, it_NoneType_int, it_NoneType_str, it_NoneType_tuple, it_NoneType_list, it_NoneType_dict, it_bool_bool, it_bool_int, it_bool_str, it_bool_tuple, it_bool_list, it_bool_dict, it_int_bool, it_int_int, it_int_str, it_int_tuple, it_int_list, it_int_dict, it_str_bool, it_str_int, it_str_str, it_str_tuple, it_str_list, it_str_dict, it_tuple_bool, it_tuple_int, it_tuple_str, it_tuple_tuple, it_tuple_list, it_tuple_dict, it_list_bool, it_list_int, it_list_str, it_list_tuple, it_list_list, it_list_dict, it_dict_bool, it_dict_int, it_dict_str, it_dict_tuple, it_dict_list, it_dict_dict, eq_self, Bool.not_true, Bool.not_false, decide_true, decide_false, true_and, and_true, Option.some.injEq, exists_eq_left, exists_eq_left', exists_eq_right, W.bl.injEq, W.int.injEq, Bool.false_eq_true, Bool.true_eq_false, reduceCtorEq, false_and, exists_false, and_self, forall_const, false_implies, true_implies, if_true, if_false, Int.reduceLE, Int.reduceLT, Int.reduceNeg, Nat.reduceLeDiff, Nat.reduceAdd, Nat.reduceSub, String.reduceEq, String.reduceBEq, String.reduceBNe, wE_mkFX, List.lookup_cons_self, beq_self_eq_true, Option.map_some, Option.map_none]
          refine ⟨by decide, ?_⟩
          refine forL_inv (Inv (.sc (ns.map W.int)) r many) (by intros; exact trivial) _ 0 _ _ ⟨_, _, _, _, _, _, _, _, _, _, rfl, hS⟩ ?_ ?_
          · rintro i w e s hw ⟨x6, x7, x8, x9, x10, x11, x12, l, L0, L1, rfl, hS⟩
            obtain ⟨n, rfl, n0, n1⟩ := ran_ok hw
            obtain ⟨a, b, c, L, ea, ec, d, ha7, hb7, hc7, fin⟩ := pick hS (w := n) n0 n1
            have hb : s.set b (.lst L) = s := set_self d.nt.2
            have na := d.nt.1
            refine ⟨_, _, rfl, ?_⟩
            try simp (config := { dsimp := false }) only [o_bl, o_slv, o_sll, o_op, o_if, o_d2, f_eq, f_ne, o_tup, o_len, o_bls, o_int, o_at, o_app, o_pop0, o_ins, o_cat, f_cnt, o_ty, o_isX, o_xf, o_cX, o_ran, o_sm, o_catchT, o_catchF, wE_oIf, gDivC, gModC, Option.isNone_none, Option.isNone_some, Option.bind_some, Bool.and_true, Bool.true_and, Bool.and_eq_true, decide_eq_true_eq, decide_eq_false_iff_not, v_catT, ln_sc, wE_ok, wE_exc, wE_bad, wE_bind, wS_nx, wS_rt, wS_bk, wS_ct, wS_exc, wS_bad, wS_bSeq, w_bNil, w_sBrk, w_sCnt, w_sIf, w_sRet, w_sRetN, w_sSet, w_sSetL, w_sExp, w_eBin, w_lBin, w_eUn, w_lUn, w_tOf, w_tAnd2, w_tOr2, w_tNot1, w_eAnd, w_eOr, w_eNot, w_eIf, w_eC, w_eTup, w_lLst, w_aNil, w_aCons, w_eIm, w_eAl, w_eCall, w_eFld, w_eM1, w_eM0, w_eM2, w_eMeth, w_ePrp, w_eNew, w_sFldW, w_sDel, w_sRaise1, v_add, v_addS, v_sub, v_mul, v_div, v_mod, v_lt, v_le, v_gt, v_ge, v_isN, v_notN, v_neg, v_int, v_intB, v_abs, v_max2, v_min2, v_eq, v_ne, v_tup, v_seqL, v_bls, v_ints, v_app, v_popAt, v_pop, v_ins, v_cat, v_cnt, w_eIsT, w_eVar, w_eIsX, w_eXf, w_eCallX, w_iRan1, w_iSeq, w_iOwn, w_lComp, w_sFor, w_for0, w_for1, w_gN, w_gSet, w_sTry, w_catch0, w_catch, w_aftX, w_sAsg, w_lCut, w_oNone, w_oSome, w_tYes, dat_cs, dat_non, dat_bl, dat_int, eqv_int, eqv_bool, eqv_cs, eqv_str, eqv_l00, eqv_l10, eqv_t00, eqv_t10, wE_mkFF, r_lstR, r_lstM, r_seqW, r_lstW, r_isL, r_insAt, r_tyW, r_srcW, r_dat, s_im, s_tup, s_lr, s_sc, l_im, l_lr, l_sc, m_im, m_lr, i_im, i_lr, i_sc, c_im, c_tup, c_sc, t_tup, t_im, t_int, t_bl, t_str, t_non, ln_ref, ln_tup, ln_im, ln_lr, ix_ref, ix_tup', ix_im, ix_lr, ix_sc, isN_ref, isN_non, isN_tup, isN_int, isN_bl, isN_str, isN_im, List.map_cons, List.map_nil, List.cons_append, List.nil_append, List.append_nil, List.getElem?_cons_zero, List.getElem?_cons_succ, List.set_cons_zero, List.set_cons_succ, List.replicate_succ, List.replicate_zero, List.length_cons, List.length_nil, List.lookup, il_int, il_bl, il_str, il_non, il_tup, il_im, il_sc, il_ref, il_cl, il_lr, ixN_zero, it_NoneType_bool, it_NoneType_int, it_NoneType_str, it_NoneType_tuple, it_NoneType_list, it_NoneType_dict, it_bool_bool, it_bool_int, it_bool_str, it_bool_tuple, it_bool_list, it_bool_dict, it_int_bool, it_int_int, it_int_str, it_int_tuple, it_int_list, it_int_dict, it_str_bool, it_str_int, it_str_str, it_str_tuple, it_str_list, it_str_dict, it_tuple_bool, it_tuple_int, it_tuple_str, it_tuple_tuple, it_tuple_list, it_tuple_dict, it_list_bool, it_list_int, it_list_str, it_list_tuple, it_list_list, it_list_dict, it_dict_bool, it_dict_int, it_dict_str, it_dict_tuple, it_dict_list, it_dict_dict, eq_self, Bool.not_true, Bool.not_false, decide_true, decide_false, true_and, and_true, Option.some.injEq, exists_eq_left, exists_eq_left', exists_eq_right, W.bl.injEq, W.int.injEq, Bool.false_eq_true, Bool.true_eq_false, reduceCtorEq, false_and, exists_false, and_self, forall_const, false_implies, true_implies, if_true, if_false, Int.reduceLE, Int.reduceLT, Int.reduceNeg, Nat.reduceLeDiff, Nat.reduceAdd, Nat.reduceSub, String.reduceEq, String.reduceBEq, String.reduceBNe, wE_mkFX, List.lookup_cons_self, beq_self_eq_true, Option.map_some, Option.map_none, ea, na]
            rw [o_prp (m := f_Net_letters) rfl]
            refine letters_ok d.nt ?_
            try simp (config := { dsimp := false }) only [o_bl, o_slv, o_sll, o_op, o_if, o_d2, f_eq, f_ne, o_tup, o_len, o_bls, o_int, o_at, o_app, o_pop0, o_ins, o_cat, f_cnt, o_ty, o_isX, o_xf, o_cX, o_ran, o_sm, o_catchT, o_catchF, wE_oIf, gDivC, gModC, Option.isNone_none, Option.isNone_some, Option.bind_some, Bool.and_true, Bool.true_and, Bool.and_eq_true, decide_eq_true_eq, decide_eq_false_iff_not, v_catT, ln_sc, wE_ok, wE_exc, wE_bad, wE_bind, wS_nx, wS_rt, wS_bk, wS_ct, wS_exc, wS_bad, wS_bSeq, w_bNil, w_sBrk, w_sCnt, w_sIf, w_sRet, w_sRetN, w_sSet, w_sSetL, w_sExp, w_eBin, w_lBin, w_eUn, w_lUn, w_tOf, w_tAnd2, w_tOr2, w_tNot1, w_eAnd, w_eOr, w_eNot, w_eIf, w_eC, w_eTup, w_lLst, w_aNil, w_aCons, w_eIm, w_eAl, w_eCall, w_eFld, w_eM1, w_eM0, w_eM2, w_eMeth, w_ePrp, w_eNew, w_sFldW, w_sDel, w_sRaise1, v_add, v_addS, v_sub, v_mul, v_div, v_mod, v_lt, v_le, v_gt, v_ge, v_isN, v_notN, v_neg, v_int, v_intB, v_abs, v_max2, v_min2, v_eq, v_ne, v_tup, v_seqL, v_bls, v_ints, v_app, v_popAt, v_pop, v_ins, v_cat, v_cnt, w_eIsT, w_eVar, w_eIsX, w_eXf, w_eCallX, w_iRan1, w_iSeq, w_iOwn, w_lComp, w_sFor, w_for0, w_for1, w_gN, w_gSet, w_sTry, w_catch0, w_catch, w_aftX, w_sAsg, w_lCut, w_oNone, w_oSome, w_tYes, dat_cs, dat_non, dat_bl, dat_int, eqv_int, eqv_bool, eqv_cs, eqv_str, eqv_l00, eqv_l10, eqv_t00, eqv_t10, wE_mkFF, r_lstR, r_lstM, r_seqW, r_lstW, r_isL, r_insAt, r_tyW, r_srcW, r_dat, s_im, s_tup, s_lr, s_sc, l_im, l_lr, l_sc, m_im, m_lr, i_im, i_lr, i_sc, c_im, c_tup, c_sc, t_tup, t_im, t_int, t_bl, t_str, t_non, ln_ref, ln_tup, ln_im, ln_lr, ix_ref, ix_tup', ix_im, ix_lr, ix_sc, isN_ref, isN_non, isN_tup, isN_int, isN_bl, isN_str, isN_im, List.map_cons, List.map_nil, List.cons_append, List.nil_append, List.append_nil, List.getElem?_cons_zero, List.getElem?_cons_succ, List.set_cons_zero, List.set_cons_succ, List.replicate_succ, List.replicate_zero, List.length_cons, List.length_nil, List.lookup, il_int, il_bl, il_str, il_non, il_tup, il_im, il_sc, il_ref, il_cl, il_lr, ixN_zero, it_NoneType_bool, it_NoneType_int, it_NoneType_str, it_NoneType_tuple, it_NoneType_list, it_NoneType_dict, it_bool_bool, it_bool_int, it_bool_str, it_bool_tuple, it_bool_list, it_bool_dict, it_int_bool, it_int_int, it_int_str, it_int_tuple, it_int_list, it_int_dict, it_str_bool, it_str_int, it_str_str, it_str_tuple, it_str_list, it_str_dict, it_tuple_bool, it_tuple_int, it_tuple_str, it_tuple_tuple, it_tuple_list, it_tuple_dict, it_list_bool, it_list_int, it_list_str, it_list_tuple, it_list_list, it_list_dict, it_dict_bool, it_dict_int, it_dict_str, it_dict_tuple, it_dict_list, it_dict_dict, eq_self, Bool.not_true, Bool.not_false, decide_true, decide_false, true_and, and_true, Option.some.injEq, exists_eq_left, exists_eq_left', exists_eq_right, W.bl.injEq, W.int.injEq, Bool.false_eq_true, Bool.true_eq_false, reduceCtorEq, false_and, exists_false, and_self, forall_const, false_implies, true_implies, if_true, if_false, Int.reduceLE, Int.reduceLT, Int.reduceNeg, Nat.reduceLeDiff, Nat.reduceAdd, Nat.reduceSub, String.reduceEq, String.reduceBEq, String.reduceBNe, wE_mkFX, List.lookup_cons_self, beq_self_eq_true, Option.map_some, Option.map_none, ec, d.ls]
            refine same_ok 7 (w := .tup L) ⟨by have := d.gd.1; omega, fun w hw => FlW.mono (n := 1) (m := 6) (d.gd.2 w hw) (by omega)⟩ ?_
            have hd : ∀ k w, k ≠ "send" → deed k L.length w L = (.tup [.str (cs "NoLetter"), .int L.length], L) := fun k w hk => by
              unfold deed
              rw [if_neg hk, if_neg (by omega)]
            have fl : FlW 7 (.tup [.str (cs "NoLetter"), .int L.length]) := ⟨by simp, by
              intro x hx
              simp only [List.mem_cons, List.not_mem_nil, or_false] at hx
              rcases hx with rfl | rfl <;> first | exact fl_int | exact fl_cs⟩
            try simp (config := { dsimp := false }) only [o_bl, o_slv, o_sll, o_op, o_if, o_d2, f_eq, f_ne, o_tup, o_len, o_bls, o_int, o_at, o_app, o_pop0, o_ins, o_cat, f_cnt, o_ty, o_isX, o_xf, o_cX, o_ran, o_sm, o_catchT, o_catchF, wE_oIf, gDivC, gModC, Option.isNone_none, Option.isNone_some, Option.bind_some, Bool.and_true, Bool.true_and, Bool.and_eq_true, decide_eq_true_eq, decide_eq_false_iff_not, v_catT, ln_sc, wE_ok, wE_exc, wE_bad, wE_bind, wS_nx, wS_rt, wS_bk, wS_ct, wS_exc, wS_bad, wS_bSeq, w_bNil, w_sBrk, w_sCnt, w_sIf, w_sRet, w_sRetN, w_sSet, w_sSetL, w_sExp, w_eBin, w_lBin, w_eUn, w_lUn, w_tOf, w_tAnd2, w_tOr2, w_tNot1, w_eAnd, w_eOr, w_eNot, w_eIf, w_eC, w_eTup, w_lLst, w_aNil, w_aCons, w_eIm, w_eAl, w_eCall, w_eFld, w_eM1, w_eM0, w_eM2, w_eMeth, w_ePrp, w_eNew, w_sFldW, w_sDel, w_sRaise1, v_add, v_addS, v_sub, v_mul, v_div, v_mod, v_lt, v_le, v_gt, v_ge, v_isN, v_notN, v_neg, v_int, v_intB, v_abs, v_max2, v_min2, v_eq, v_ne, v_tup, v_seqL, v_bls, v_ints, v_app, v_popAt, v_pop, v_ins, v_cat, v_cnt, w_eIsT, w_eVar, w_eIsX, w_eXf, w_eCallX, w_iRan1, w_iSeq, w_iOwn, w_lComp, w_sFor, w_for0, w_for1, w_gN, w_gSet, w_sTry, w_catch0, w_catch, w_aftX, w_sAsg, w_lCut, w_oNone, w_oSome, w_tYes, dat_cs, dat_non, dat_bl, dat_int, eqv_int, eqv_bool, eqv_cs, eqv_str, eqv_l00, eqv_l10, eqv_t00, eqv_t10, wE_mkFF, r_lstR, r_lstM, r_seqW, r_lstW, r_isL, r_insAt, r_tyW, r_srcW, r_dat, s_im, s_tup, s_lr, s_sc, l_im, l_lr, l_sc, m_im, m_lr, i_im, i_lr, i_sc, c_im, c_tup, c_sc, t_tup, t_im, t_int, t_bl, t_str, t_non, ln_ref, ln_tup, ln_im, ln_lr, ix_ref, ix_tup', ix_im, ix_lr, ix_sc, isN_ref, isN_non, isN_tup, isN_int, isN_bl, isN_str, isN_im, List.map_cons, List.map_nil, List.cons_append, List.nil_append, List.append_nil, List.getElem?_cons_zero, List.getElem?_cons_succ, List.set_cons_zero, List.set_cons_succ, List.replicate_succ, List.replicate_zero, List.length_cons, List.length_nil, List.lookup, il_int, il_bl, il_str, il_non, il_tup, il_im, il_sc, il_ref, il_cl, il_lr, ixN_zero, it_NoneType_bool, it_NoneType_int, it_NoneType_str, it_NoneType_tuple, it_NoneType_list, it_NoneType_dict, it_bool_bool, it_bool_int, it_bool_str, it_bool_tuple, it_bool_list, it_bool_dict, it_int_bool, it_int_int, it_int_str, it_int_tuple, it_int_list, it_int_dict, it_str_bool, it_str_int, it_str_str, it_str_tuple, it_str_list, it_str_dict, it_tuple_bool, it_tuple_int, it_tuple_str, it_tuple_tuple, it_tuple_list, it_tuple_dict, it_list_bool, it_list_int, it_list_str, it_list_tuple, it_list_list, it_list_dict, it_dict_bool, it_dict_int, it_dict_str, it_dict_tuple, it_dict_list, it_dict_dict, eq_self, Bool.not_true, Bool.not_false, decide_true, decide_false, true_and, and_true, Option.some.injEq, exists_eq_left, exists_eq_left', exists_eq_right, W.bl.injEq, W.int.injEq, Bool.false_eq_true, Bool.true_eq_false, reduceCtorEq, false_and, exists_false, and_self, forall_const, false_implies, true_implies, if_true, if_false, Int.reduceLE, Int.reduceLT, Int.reduceNeg, Nat.reduceLeDiff, Nat.reduceAdd, Nat.reduceSub, String.reduceEq, String.reduceBEq, String.reduceBNe, wE_mkFX, List.lookup_cons_self, beq_self_eq_true, Option.map_some, Option.map_none, ec, d.ls, ea]
            refine done_ok (us := []) (.inr (.inl rfl)) d.nt d.gd.1 d.gd.lr rfl rfl ?_
            rw [hd _ _ (by decide)]
            try simp (config := { dsimp := false }) only [o_bl, o_slv, o_sll, o_op, o_if, o_d2, f_eq, f_ne, o_tup, o_len, o_bls, o_int, o_at, o_app, o_pop0, o_ins, o_cat, f_cnt, o_ty, o_isX, o_xf, o_cX, o_ran, o_sm, o_catchT, o_catchF, wE_oIf, gDivC, gModC, Option.isNone_none, Option.isNone_some, Option.bind_some, Bool.and_true, Bool.true_and, Bool.and_eq_true, decide_eq_true_eq, decide_eq_false_iff_not, v_catT, ln_sc, wE_ok, wE_exc, wE_bad, wE_bind, wS_nx, wS_rt, wS_bk, wS_ct, wS_exc, wS_bad, wS_bSeq, w_bNil, w_sBrk, w_sCnt, w_sIf, w_sRet, w_sRetN, w_sSet, w_sSetL, w_sExp, w_eBin, w_lBin, w_eUn, w_lUn, w_tOf, w_tAnd2, w_tOr2, w_tNot1, w_eAnd, w_eOr, w_eNot, w_eIf, w_eC, w_eTup, w_lLst, w_aNil, w_aCons, w_eIm, w_eAl, w_eCall, w_eFld, w_eM1, w_eM0, w_eM2, w_eMeth, w_ePrp, w_eNew, w_sFldW, w_sDel, w_sRaise1, v_add, v_addS, v_sub, v_mul, v_div, v_mod, v_lt, v_le, v_gt, v_ge, v_isN, v_notN, v_neg, v_int, v_intB, v_abs, v_max2, v_min2, v_eq, v_ne, v_tup, v_seqL, v_bls, v_ints, v_app, v_popAt, v_pop, v_ins, v_cat, v_cnt, w_eIsT, w_eVar, w_eIsX, w_eXf, w_eCallX, w_iRan1, w_iSeq, w_iOwn, w_lComp, w_sFor, w_for0, w_for1, w_gN, w_gSet, w_sTry, w_catch0, w_catch, w_aftX, w_sAsg, w_lCut, w_oNone, w_oSome, w_tYes, dat_cs, dat_non, dat_bl, dat_int, eqv_int, eqv_bool, eqv_cs, eqv_str, eqv_l00, eqv_l10, eqv_t00, eqv_t10, wE_mkFF, r_lstR, r_lstM, r_seqW, r_lstW, r_isL, r_insAt, r_tyW, r_srcW, r_dat, s_im, s_tup, s_lr, s_sc, l_im, l_lr, l_sc, m_im, m_lr, i_im, i_lr, i_sc, c_im, c_tup, c_sc, t_tup, t_im, t_int, t_bl, t_str, t_non, ln_ref, ln_tup, ln_im, ln_lr, ix_ref, ix_tup', ix_im, ix_lr, ix_sc, isN_ref, isN_non, isN_tup, isN_int, isN_bl, isN_str, isN_im, List.map_cons, List.map_nil, List.cons_append, List.nil_append, List.append_nil, List.getElem?_cons_zero, List.getElem?_cons_succ, List.set_cons_zero, List.set_cons_succ, List.replicate_succ, List.replicate_zero, List.length_cons, List.length_nil, List.lookup, il_int, il_bl, il_str, il_non, il_tup, il_im, il_sc, il_ref, il_cl, il_lr, ixN_zero, it_NoneType_bool, it_NoneType_int, it_NoneType_str, it_NoneType_tuple, it_NoneType_list, it_NoneType_dict, it_bool_bool, it_bool_int, it_bool_str, it_bool_tuple, it_bool_list, it_bool_dict, it_int_bool, it_int_int, it_int_str, it_int_tuple, it_int_list, it_int_dict, it_str_bool, it_str_int, it_str_str, it_str_tuple, it_str_list, it_str_dict, it_tuple_bool, it_tuple_int, it_tuple_str, it_tuple_tuple, it_tuple_list, it_tuple_dict, it_list_bool, it_list_int, it_list_str, it_list_tuple, it_list_list, it_list_dict, it_dict_bool, it_dict_int, it_dict_str, it_dict_tuple, it_dict_list, it_dict_dict, eq_self, Bool.not_true, Bool.not_false, decide_true, decide_false, true_and, and_true, Option.some.injEq, exists_eq_left, exists_eq_left', exists_eq_right, W.bl.injEq, W.int.injEq, Bool.false_eq_true, Bool.true_eq_false, reduceCtorEq, false_and, exists_false, and_self, forall_const, false_implies, true_implies, if_true, if_false, Int.reduceLE, Int.reduceLT, Int.reduceNeg, Nat.reduceLeDiff, Nat.reduceAdd, Nat.reduceSub, String.reduceEq, String.reduceBEq, String.reduceBNe, wE_mkFX, List.lookup_cons_self, beq_self_eq_true, Option.map_some, Option.map_none, hb]
            refine same_ok 7 fl ?_
            try simp (config := { dsimp := false }) only [o_bl, o_slv, o_sll, o_op, o_if, o_d2, f_eq, f_ne, o_tup, o_len, o_bls, o_int, o_at, o_app, o_pop0, o_ins, o_cat, f_cnt, o_ty, o_isX, o_xf, o_cX, o_ran, o_sm, o_catchT, o_catchF, wE_oIf, gDivC, gModC, Option.isNone_none, Option.isNone_some, Option.bind_some, Bool.and_true, Bool.true_and, Bool.and_eq_true, decide_eq_true_eq, decide_eq_false_iff_not, v_catT, ln_sc, wE_ok, wE_exc, wE_bad, wE_bind, wS_nx, wS_rt, wS_bk, wS_ct, wS_exc, wS_bad, wS_bSeq, w_bNil, w_sBrk, w_sCnt, w_sIf, w_sRet, w_sRetN, w_sSet, w_sSetL, w_sExp, w_eBin, w_lBin, w_eUn, w_lUn, w_tOf, w_tAnd2, w_tOr2, w_tNot1, w_eAnd, w_eOr, w_eNot, w_eIf, w_eC, w_eTup, w_lLst, w_aNil, w_aCons, w_eIm, w_eAl, w_eCall, w_eFld, w_eM1, w_eM0, w_eM2, w_eMeth, w_ePrp, w_eNew, w_sFldW, w_sDel, w_sRaise1, v_add, v_addS, v_sub, v_mul, v_div, v_mod, v_lt, v_le, v_gt, v_ge, v_isN, v_notN, v_neg, v_int, v_intB, v_abs, v_max2, v_min2, v_eq, v_ne, v_tup, v_seqL, v_bls, v_ints, v_app, v_popAt, v_pop, v_ins, v_cat, v_cnt, w_eIsT, w_eVar, w_eIsX, w_eXf, w_eCallX, w_iRan1, w_iSeq, w_iOwn, w_lComp, w_sFor, w_for0, w_for1, w_gN, w_gSet, w_sTry, w_catch0, w_catch, w_aftX, w_sAsg, w_lCut, w_oNone, w_oSome, w_tYes, dat_cs, dat_non, dat_bl, dat_int, eqv_int, eqv_bool, eqv_cs, eqv_str, eqv_l00, eqv_l10, eqv_t00, eqv_t10, wE_mkFF, r_lstR, r_lstM, r_seqW, r_lstW, r_isL, r_insAt, r_tyW, r_srcW, r_dat, s_im, s_tup, s_lr, s_sc, l_im, l_lr, l_sc, m_im, m_lr, i_im, i_lr, i_sc, c_im, c_tup, c_sc, t_tup, t_im, t_int, t_bl, t_str, t_non, ln_ref, ln_tup, ln_im, ln_lr, ix_ref, ix_tup', ix_im, ix_lr, ix_sc, isN_ref, isN_non, isN_tup, isN_int, isN_bl, isN_str, isN_im, List.map_cons, List.map_nil, List.cons_append, List.nil_append, List.append_nil, List.getElem?_cons_zero, List.getElem?_cons_succ, List.set_cons_zero, List.set_cons_succ, List.replicate_succ, List.replicate_zero, List.length_cons, List.length_nil, List.lookup, il_int, il_bl, il_str, il_non, il_tup, il_im, il_sc, il_ref, il_cl, il_lr, ixN_zero, it_NoneType_bool, it_NoneType_int, it_NoneType_str, it_NoneType_tuple, it_NoneType_list, it_NoneType_dict, it_bool_bool, it_bool_int, it_bool_str, it_bool_tuple, it_bool_list, it_bool_dict, it_int_bool, it_int_int, it_int_str, it_int_tuple, it_int_list, it_int_dict, it_str_bool, it_str_int, it_str_str, it_str_tuple, it_str_list, it_str_dict, it_tuple_bool, it_tuple_int, it_tuple_str, it_tuple_tuple, it_tuple_list, it_tuple_dict, it_list_bool, it_list_int, it_list_str, it_list_tuple, it_list_list, it_list_dict, it_dict_bool, it_dict_int, it_dict_str, it_dict_tuple, it_dict_list, it_dict_dict, eq_self, Bool.not_true, Bool.not_false, decide_true, decide_false, true_and, and_true, Option.some.injEq, exists_eq_left, exists_eq_left', exists_eq_right, W.bl.injEq, W.int.injEq, Bool.false_eq_true, Bool.true_eq_false, reduceCtorEq, false_and, exists_false, and_self, forall_const, false_implies, true_implies, if_true, if_false, Int.reduceLE, Int.reduceLT, Int.reduceNeg, Nat.reduceLeDiff, Nat.reduceAdd, Nat.reduceSub, String.reduceEq, String.reduceBEq, String.reduceBNe, wE_mkFX, List.lookup_cons_self, beq_self_eq_true, Option.map_some, Option.map_none, ec, d.ls, ea]
            refine done_ok (us := []) (.inr (.inr rfl)) d.nt d.gd.1 d.gd.lr rfl rfl ?_
            rw [hd _ _ (by decide)]
            try simp (config := { dsimp := false }) only [o_bl, o_slv, o_sll, o_op, o_if, o_d2, f_eq, f_ne, o_tup, o_len, o_bls, o_int, o_at, o_app, o_pop0, o_ins, o_cat, f_cnt, o_ty, o_isX, o_xf, o_cX, o_ran, o_sm, o_catchT, o_catchF, wE_oIf, gDivC, gModC, Option.isNone_none, Option.isNone_some, Option.bind_some, Bool.and_true, Bool.true_and, Bool.and_eq_true, decide_eq_true_eq, decide_eq_false_iff_not, v_catT, ln_sc, wE_ok, wE_exc, wE_bad, wE_bind, wS_nx, wS_rt, wS_bk, wS_ct, wS_exc, wS_bad, wS_bSeq, w_bNil, w_sBrk, w_sCnt, w_sIf, w_sRet, w_sRetN, w_sSet, w_sSetL, w_sExp, w_eBin, w_lBin, w_eUn, w_lUn, w_tOf, w_tAnd2, w_tOr2, w_tNot1, w_eAnd, w_eOr, w_eNot, w_eIf, w_eC, w_eTup, w_lLst, w_aNil, w_aCons, w_eIm, w_eAl, w_eCall, w_eFld, w_eM1, w_eM0, w_eM2, w_eMeth, w_ePrp, w_eNew, w_sFldW, w_sDel, w_sRaise1, v_add, v_addS, v_sub, v_mul, v_div, v_mod, v_lt, v_le, v_gt, v_ge, v_isN, v_notN, v_neg, v_int, v_intB, v_abs, v_max2, v_min2, v_eq, v_ne, v_tup, v_seqL, v_bls, v_ints, v_app, v_popAt, v_pop, v_ins, v_cat, v_cnt, w_eIsT, w_eVar, w_eIsX, w_eXf, w_eCallX, w_iRan1, w_iSeq, w_iOwn, w_lComp, w_sFor, w_for0, w_for1, w_gN, w_gSet, w_sTry, w_catch0, w_catch, w_aftX, w_sAsg, w_lCut, w_oNone, w_oSome, w_tYes, dat_cs, dat_non, dat_bl, dat_int, eqv_int, eqv_bool, eqv_cs, eqv_str, eqv_l00, eqv_l10, eqv_t00, eqv_t10, wE_mkFF, r_lstR, r_lstM, r_seqW, r_lstW, r_isL, r_insAt, r_tyW, r_srcW, r_dat, s_im, s_tup, s_lr, s_sc, l_im, l_lr, l_sc, m_im, m_lr, i_im, i_lr, i_sc, c_im, c_tup, c_sc, t_tup, t_im, t_int, t_bl, t_str, t_non, ln_ref, ln_tup, ln_im, ln_lr, ix_ref, ix_tup', ix_im, ix_lr, ix_sc, isN_ref, isN_non, isN_tup, isN_int, isN_bl, isN_str, isN_im, List.map_cons, List.map_nil, List.cons_append, List.nil_append, List.append_nil, List.getElem?_cons_zero, List.getElem?_cons_succ, List.set_cons_zero, List.set_cons_succ, List.replicate_succ, List.replicate_zero, List.length_cons, List.length_nil, List.lookup, il_int, il_bl, il_str, il_non, il_tup, il_im, il_sc, il_ref, il_cl, il_lr, ixN_zero, it_NoneType_bool, it_NoneType_int, it_NoneType_str, it_NoneType_tuple, it_NoneType_list, it_NoneType_dict, it_bool_bool, it_bool_int, it_bool_str, it_bool_tuple, it_bool_list, it_bool_dict, it_int_bool, it_int_int, it_int_str, it_int_tuple, it_int_list, it_int_dict, it_str_bool, it_str_int, it_str_str, it_str_tuple, it_str_list, it_str_dict, it_tuple_bool, it_tuple_int, it_tuple_str, it_tuple_tuple, it_tuple_list, it_tuple_dict, it_list_bool, it_list_int, it_list_str, it_list_tuple, it_list_list, it_list_dict, it_dict_bool, it_dict_int, it_dict_str, it_dict_tuple, it_dict_list, it_dict_dict, eq_self, Bool.not_true, Bool.not_false, decide_true, decide_false, true_and, and_true, Option.some.injEq, exists_eq_left, exists_eq_left', exists_eq_right, W.bl.injEq, W.int.injEq, Bool.false_eq_true, Bool.true_eq_false, reduceCtorEq, false_and, exists_false, and_self, forall_const, false_implies, true_implies, if_true, if_false, Int.reduceLE, Int.reduceLT, Int.reduceNeg, Nat.reduceLeDiff, Nat.reduceAdd, Nat.reduceSub, String.reduceEq, String.reduceBEq, String.reduceBNe, wE_mkFX, List.lookup_cons_self, beq_self_eq_true, Option.map_some, Option.map_none, hb]
            refine same_ok 7 fl ?_
            try simp (config := { dsimp := false }) only [o_bl, o_slv, o_sll, o_op, o_if, o_d2, f_eq, f_ne, o_tup, o_len, o_bls, o_int, o_at, o_app, o_pop0, o_ins, o_cat, f_cnt, o_ty, o_isX, o_xf, o_cX, o_ran, o_sm, o_catchT, o_catchF, wE_oIf, gDivC, gModC, Option.isNone_none, Option.isNone_some, Option.bind_some, Bool.and_true, Bool.true_and, Bool.and_eq_true, decide_eq_true_eq, decide_eq_false_iff_not, v_catT, ln_sc, wE_ok, wE_exc, wE_bad, wE_bind, wS_nx, wS_rt, wS_bk, wS_ct, wS_exc, wS_bad, wS_bSeq, w_bNil, w_sBrk, w_sCnt, w_sIf, w_sRet, w_sRetN, w_sSet, w_sSetL, w_sExp, w_eBin, w_lBin, w_eUn, w_lUn, w_tOf, w_tAnd2, w_tOr2, w_tNot1, w_eAnd, w_eOr, w_eNot, w_eIf, w_eC, w_eTup, w_lLst, w_aNil, w_aCons, w_eIm, w_eAl, w_eCall, w_eFld, w_eM1, w_eM0, w_eM2, w_eMeth, w_ePrp, w_eNew, w_sFldW, w_sDel, w_sRaise1, v_add, v_addS, v_sub, v_mul, v_div, v_mod, v_lt, v_le, v_gt, v_ge, v_isN, v_notN, v_neg, v_int, v_intB, v_abs, v_max2, v_min2, v_eq, v_ne, v_tup, v_seqL, v_bls, v_ints, v_app, v_popAt, v_pop, v_ins, v_cat, v_cnt, w_eIsT, w_eVar, w_eIsX, w_eXf, w_eCallX, w_iRan1, w_iSeq, w_iOwn, w_lComp, w_sFor, w_for0, w_for1, w_gN, w_gSet, w_sTry, w_catch0, w_catch, w_aftX, w_sAsg, w_lCut, w_oNone, w_oSome, w_tYes, dat_cs, dat_non, dat_bl, dat_int, eqv_int, eqv_bool, eqv_cs, eqv_str, eqv_l00, eqv_l10, eqv_t00, eqv_t10, wE_mkFF, r_lstR, r_lstM, r_seqW, r_lstW, r_isL, r_insAt, r_tyW, r_srcW, r_dat, s_im, s_tup, s_lr, s_sc, l_im, l_lr, l_sc, m_im, m_lr, i_im, i_lr, i_sc, c_im, c_tup, c_sc, t_tup, t_im, t_int, t_bl, t_str, t_non, ln_ref, ln_tup, ln_im, ln_lr, ix_ref, ix_tup', ix_im, ix_lr, ix_sc, isN_ref, isN_non, isN_tup, isN_int, isN_bl, isN_str, isN_im, List.map_cons, List.map_nil, List.cons_append, List.nil_append, List.append_nil, List.getElem?_cons_zero, List.getElem?_cons_succ, List.set_cons_zero, List.set_cons_succ, List.replicate_succ, List.replicate_zero, List.length_cons, List.length_nil, List.lookup, il_int, il_bl, il_str, il_non, il_tup, il_im, il_sc, il_ref, il_cl, il_lr, ixN_zero, it_NoneType_bool, it_NoneType_int, it_NoneType_str, it_NoneType_tuple, it_NoneType_list, it_NoneType_dict, it_bool_bool, it_bool_int, it_bool_str, it_bool_tuple, it_bool_list, it_bool_dict, it_int_bool, it_int_int, it_int_str, it_int_tuple, it_int_list, it_int_dict, it_str_bool, it_str_int, it_str_str, it_str_tuple, it_str_list, it_str_dict, it_tuple_bool, it_tuple_int, it_tuple_str, it_tuple_tuple, it_tuple_list, it_tuple_dict, it_list_bool, it_list_int, it_list_str, it_list_tuple, it_list_list, it_list_dict, it_dict_bool, it_dict_int, it_dict_str, it_dict_tuple, it_dict_list, it_dict_dict, eq_self, Bool.not_true, Bool.not_false, decide_true, decide_false, true_and, and_true, Option.some.injEq, exists_eq_left, exists_eq_left', exists_eq_right, W.bl.injEq, W.int.injEq, Bool.false_eq_true, Bool.true_eq_false, reduceCtorEq, false_and, exists_false, and_self, forall_const, false_implies, true_implies, if_true, if_false, Int.reduceLE, Int.reduceLT, Int.reduceNeg, Nat.reduceLeDiff, Nat.reduceAdd, Nat.reduceSub, String.reduceEq, String.reduceBEq, String.reduceBNe, wE_mkFX, List.lookup_cons_self, beq_self_eq_true, Option.map_some, Option.map_none]
            exact ⟨_, _, _, _, _, _, _, _, _, _, rfl, hS⟩
          · rintro e s ⟨x6, x7, x8, x9, x10, x11, x12, l, L0, L1, rfl, hS⟩
            try simp (config := { dsimp := false }) only [o_bl, o_slv, o_sll, o_op, o_if, o_d2, f_eq, f_ne, o_tup, o_len, o_bls, o_int, o_at, o_app, o_pop0, o_ins, o_cat, f_cnt, o_ty, o_isX, o_xf, o_cX, o_ran, o_sm, o_catchT, o_catchF, wE_oIf, gDivC, gModC, Option.isNone_none, Option.isNone_some, Option.bind_some, Bool.and_true, Bool.true_and, Bool.and_eq_true, decide_eq_true_eq, decide_eq_false_iff_not, v_catT, ln_sc, wE_ok, wE_exc, wE_bad, wE_bind, wS_nx, wS_rt, wS_bk, wS_ct, wS_exc, wS_bad, wS_bSeq, w_bNil, w_sBrk, w_sCnt, w_sIf, w_sRet, w_sRetN, w_sSet, w_sSetL, w_sExp, w_eBin, w_lBin, w_eUn, w_lUn, w_tOf, w_tAnd2, w_tOr2, w_tNot1, w_eAnd, w_eOr, w_eNot, w_eIf, w_eC, w_eTup, w_lLst, w_aNil, w_aCons, w_eIm, w_eAl, w_eCall, w_eFld, w_eM1, w_eM0, w_eM2, w_eMeth, w_ePrp, w_eNew, w_sFldW, w_sDel, w_sRaise1, v_add, v_addS, v_sub, v_mul, v_div, v_mod, v_lt, v_le, v_gt, v_ge, v_isN, v_notN, v_neg, v_int, v_intB, v_abs, v_max2, v_min2, v_eq, v_ne, v_tup, v_seqL, v_bls, v_ints, v_app, v_popAt, v_pop, v_ins, v_cat, v_cnt, w_eIsT, w_eVar, w_eIsX, w_eXf, w_eCallX, w_iRan1, w_iSeq, w_iOwn, w_lComp, w_sFor, w_for0, w_for1, w_gN, w_gSet, w_sTry, w_catch0, w_catch, w_aftX, w_sAsg, w_lCut, w_oNone, w_oSome, w_tYes, dat_cs, dat_non, dat_bl, dat_int, eqv_int, eqv_bool, eqv_cs, eqv_str, eqv_l00, eqv_l10, eqv_t00, eqv_t10, wE_mkFF, r_lstR, r_lstM, r_seqW, r_lstW, r_isL, r_insAt, r_tyW, r_srcW, r_dat, s_im, s_tup, s_lr, s_sc, l_im, l_lr, l_sc, m_im, m_lr, i_im, i_lr, i_sc, c_im, c_tup, c_sc, t_tup, t_im, t_int, t_bl, t_str, t_non, ln_ref, ln_tup, ln_im, ln_lr, ix_ref, ix_tup', ix_im, ix_lr, ix_sc, isN_ref, isN_non, isN_tup, isN_int, isN_bl, isN_str, isN_im, List.map_cons, List.map_nil, List.cons_append, List.nil_append, List.append_nil, List.getElem?_cons_zero, List.getElem?_cons_succ, List.set_cons_zero, List.set_cons_succ, List.replicate_succ, List.replicate_zero, List.length_cons, List.length_nil, List.lookup, il_int, il_bl, il_str, il_non, il_tup, il_im, il_sc, il_ref, il_cl, il_lr, ixN_zero, it_NoneType_bool, it_NoneType_int, it_NoneType_str, it_NoneType_tuple, it_NoneType_list, it_NoneType_dict, it_bool_bool, it_bool_int, it_bool_str, it_bool_tuple, it_bool_list, it_bool_dict, it_int_bool, it_int_int, it_int_str, it_int_tuple, it_int_list, it_int_dict, it_str_bool, it_str_int, it_str_str, it_str_tuple, it_str_list, it_str_dict, it_tuple_bool, it_tuple_int, it_tuple_str, it_tuple_tuple, it_tuple_list, it_tuple_dict, it_list_bool, it_list_int, it_list_str, it_list_tuple, it_list_list, it_list_dict, it_dict_bool, it_dict_int, it_dict_str, it_dict_tuple, it_dict_list, it_dict_dict, eq_self, Bool.not_true, Bool.not_false, decide_true, decide_false, true_and, and_true, Option.some.injEq, exists_eq_left, exists_eq_left', exists_eq_right, W.bl.injEq, W.int.injEq, Bool.false_eq_true, Bool.true_eq_false, reduceCtorEq, false_and, exists_false, and_self, forall_const, false_implies, true_implies, if_true, if_false, Int.reduceLE, Int.reduceLT, Int.reduceNeg, Nat.reduceLeDiff, Nat.reduceAdd, Nat.reduceSub, String.reduceEq, String.reduceBEq, String.reduceBNe, wE_mkFX, List.lookup_cons_self, beq_self_eq_true, Option.map_some, Option.map_none]
            refine seen_ok hS ?_
            exact ⟨rfl, rfl⟩
theorem law_end (ns : List Int) (hn : ns.length ≤ 63) : ∃ st, f_law [.sc (ns.map Hb.W.int)] [] = .ok (.bl true) st := by
  obtain ⟨w, s, e, rfl⟩ := (law_plain hn).eq
  exact ⟨s, e⟩
end Kheldbestk65nets

end

theorem PySem.Challenge.cw_heldbest_k65_nets_holds : PySem.Challenge.rw_heldbest_k65_nets.Holds := by
  exact PySem.Challenge.cw_heldbest_k65_nets_holds0 fun ns h => Kheldbestk65nets.law_end ns h
