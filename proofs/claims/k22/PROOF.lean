import PyProof.Rows.All
import Wide.All
import OpenK.AllK
import Wide.FinOn
import HandS.ForMost
import KE.KDictKeyed
import HandS.Lambda
import PyProof.ReprRoads
import PyProof.ReprReads
import HandS.Evl
import HandS.Walk
import PySem.Challenge.RW_runshown_k22_whole_what_is_built_of_seen
import KE.KExcSuper
import HandS.ForExc
import HandS.TryMany
import HandS.ExcInit
import HandS.ExcSuper
import HandS.ExcOwn
import HandS.WordsExc
import HandS.More
import HandS.RaiseMore
import HandS.Dict
import HandS.SetKeys
import KE.GoesEnum
import HandS.Iter
import HandS.TupLen
import KE.KDictPairs
import HandS.Deep
import HandS.SortInts
import HandS.WordsDict
import KE.KDictItemsList
import HandS.ListItems
import HandS.Sort
import HandS.IsInst
import HandS.Conv
import HandS.TupAny
set_option Elab.async false
set_option linter.all false
set_option maxRecDepth 100000
set_option maxHeartbeats 2000000
/-! dicts whose keys are nested tuples, over the hand layer's heap -/
namespace Rs
open PySem L2 PySem.Spec PyProof.Rows

mutual
inductive NK (H : Hp) : NestedKey → V → Prop
  | none : NK H .none .non
  | num (i : Int) : NK H (.num i) (.int i)
  | text (x : Str) : NK H (.text x) (.str x)
  | tup {a : Addr} {xs : List V} {ks : List NestedKey} : H a = some (.tup xs) → NKs H ks xs → NK H (.tup ks) (.ref a)
inductive NKs (H : Hp) : List NestedKey → List V → Prop
  | nil : NKs H [] []
  | cons {k : NestedKey} {v : V} {ks : List NestedKey} {vs : List V} : NK H k v → NKs H ks vs → NKs H (k :: ks) (v :: vs)
end
mutual
theorem NK.mono {H H' : Hp} (ht : ∀ b xs, H b = some (.tup xs) → H' b = some (.tup xs)) : ∀ (k : NestedKey) (v : V), NK H k v → NK H' k v
  | .none, _, h => by cases h; exact .none
  | .num _, _, h => by cases h; exact .num _
  | .text _, _, h => by cases h; exact .text _
  | .tup ks, _, h => by
    cases h with
    | tup e r => exact .tup (ht _ _ e) (NKs.mono ht ks _ r)
theorem NKs.mono {H H' : Hp} (ht : ∀ b xs, H b = some (.tup xs) → H' b = some (.tup xs)) : ∀ (ks : List NestedKey) (vs : List V), NKs H ks vs → NKs H' ks vs
  | [], _, h => by cases h; exact .nil
  | k :: ks, _, h => by
    cases h with
    | cons h1 h2 => exact .cons (NK.mono ht k _ h1) (NKs.mono ht ks _ h2)
end
mutual
theorem NK.isAt {P : Program} {w : World} {H : Hp} {h : Heap} (ok : HOk P w H h) : ∀ (k : NestedKey) (v : V) (u : Value), NK H k v → RelV v u → NestedIs h k u
  | .none, _, _, h1, r => by cases h1; cases r; exact .none
  | .num i, _, _, h1, r => by cases h1; obtain ⟨t, rfl⟩ := r; exact .int i t
  | .text x, _, _, h1, r => by cases h1; obtain ⟨t, rfl⟩ := r; exact .text x t
  | .tup ks, _, _, h1, r => by
    cases h1 with
    | tup e q =>
      cases r
      obtain ⟨_, its, rv, o, ho, hc, n, hd⟩ := (show ObjOk P w H h _ (.tup _) from ok _ _ e)
      exact .tup ho hc hd (by simpa using NKs.isAt ok ks _ _ q rv)
theorem NKs.isAt {P : Program} {w : World} {H : Hp} {h : Heap} (ok : HOk P w H h) : ∀ (ks : List NestedKey) (vs : List V) (us : List Value), NKs H ks vs → Vals vs us → NestedAll h ks us
  | [], _, _, h1, r => by cases h1; cases r; exact .nil
  | k :: ks, _, _, h1, r => by
    cases h1 with
    | cons a b =>
      cases r with
      | cons r1 r2 => exact .cons (NK.isAt ok k _ _ a r1) (NKs.isAt ok ks _ _ b r2)
end

/-- a nested-tuple dict's object: its entries (key, where the key's tuple stands, value) -/
def ndPhi (P : Program) (w : World) (a : Addr) (es : List (NestedKey × Addr × V)) : Heap → Prop := fun h =>
  es.length ≤ sizeLine ∧ (a == sysModules) = false ∧ ∃ xs : List (NestedKey × Addr × Value), Paired (fun p q => p.1 = q.1 ∧ p.2.1 = q.2.1 ∧ RelV p.2.2 q.2.2) es xs ∧
    ∃ o des ep, h.get? a = some o ∧ o.ExactDict ∧ o.data = .dict des ep ∧ des.toList = xs.map (entryOfKey (nestedKind P w)) ∧ (xs.map (·.1)).Nodup
def NdO (P : Program) (w : World) (a : Addr) (es : List (NestedKey × Addr × V)) : HO := .ext (ndPhi P w a es)
/-- at a stands a dict with the entries kvs -/
def ND (P : Program) (w : World) (H : Hp) (a : Addr) (kvs : List (NestedKey × V)) : Prop :=
  ∃ es : List (NestedKey × Addr × V), H a = some (NdO P w a es) ∧ (∀ e ∈ es, NK H e.1 (.ref e.2.1) ∧ e.1.depth ≤ 8) ∧ kvs = es.map fun e => (e.1, e.2.2)
theorem ndo_tup {P : Program} {w : World} {a : Addr} {es : List (NestedKey × Addr × V)} {xs : List V} : NdO P w a es ≠ .tup xs := fun z => by
  have z' : HO.ext _ = HO.tup xs := z
  cases z'
theorem ndo_lst {P : Program} {w : World} {a : Addr} {es : List (NestedKey × Addr × V)} {xs : List V} : NdO P w a es ≠ .lst xs := fun z => by
  have z' : HO.ext _ = HO.lst xs := z
  cases z'
theorem ndo_ins {P : Program} {w : World} {a : Addr} {es : List (NestedKey × Addr × V)} {C dx : Addr} {fs : List (Str × V)} : NdO P w a es ≠ .ins C dx fs := fun z => by
  have z' : HO.ext _ = HO.ins C dx fs := z
  cases z'
theorem ndo_own {P : Program} {w : World} {a : Addr} {es : List (NestedKey × Addr × V)} {x : Addr} : NdO P w a es ≠ .own x := fun z => by
  have z' : HO.ext _ = HO.own x := z
  cases z'
theorem ND.frame {P : Program} {w : World} {H H' : Hp} {a : Addr} {kvs : List (NestedKey × V)} (d : ND P w H a kvs) (ha : ∀ o, H a = some o → H' a = some o) (ht : ∀ b xs, H b = some (.tup xs) → H' b = some (.tup xs)) : ND P w H' a kvs := by
  obtain ⟨es, h1, h2, h3⟩ := d
  exact ⟨es, ha _ h1, fun e he => ⟨NK.mono ht _ _ (h2 e he).1, (h2 e he).2⟩, h3⟩
theorem ND.at {P : Program} {w : World} {H : Hp} {h : Heap} {a : Addr} {kvs : List (NestedKey × V)} (ok : HOk P w H h) (d : ND P w H a kvs) :
    kvs.length ≤ sizeLine ∧ (a == sysModules) = false ∧ ∃ (es : List (NestedKey × Addr × V)) (xs : List (NestedKey × Addr × Value)), H a = some (NdO P w a es) ∧ (∀ e ∈ es, NK H e.1 (.ref e.2.1) ∧ e.1.depth ≤ 8) ∧ kvs = es.map (fun e => (e.1, e.2.2)) ∧
      Paired (fun p q => p.1 = q.1 ∧ p.2.1 = q.2.1 ∧ RelV p.2.2 q.2.2) es xs ∧ h.DictOfH (nestedKind P w) a xs := by
  obtain ⟨es, h1, h2, h3⟩ := d
  obtain ⟨⟨z, hd, xs, r, o, des, ep, q1, q2, q3, q4, q5⟩, _, _⟩ := (show ObjOk P w H h a (.ext (ndPhi P w a es)) from ok a _ h1)
  refine ⟨by rw [h3, List.length_map]; exact z, hd, es, xs, h1, h2, h3, r, o, des, ep, q1, q2, q3, q4, fun x hx => ?_, q5⟩
  have all : ∀ {l : List (NestedKey × Addr × V)} {m : List (NestedKey × Addr × Value)}, Paired (fun p q => p.1 = q.1 ∧ p.2.1 = q.2.1 ∧ RelV p.2.2 q.2.2) l m → (∀ e ∈ l, NK H e.1 (.ref e.2.1) ∧ e.1.depth ≤ 8) → ∀ x ∈ m, (nestedKind P w).is h x.1 x.2.1 := by
    intro l m q
    induction q with
    | nil => intro _ x hx; exact nomatch hx
    | @cons p q ps qs hq t ih =>
      intro hl x hx
      rcases List.mem_cons.mp hx with e | hx
      · subst e
        obtain ⟨a1, a2⟩ := hl p List.mem_cons_self
        rw [← hq.1, ← hq.2.1]
        exact ⟨NK.isAt ok _ _ _ a1 rfl, a2⟩
      · exact ih (fun e he => hl e (List.mem_cons_of_mem _ he)) x hx
  exact all r h2 x hx
theorem nd_val {es : List (NestedKey × Addr × V)} {xs : List (NestedKey × Addr × Value)} (r : Paired (fun p q => p.1 = q.1 ∧ p.2.1 = q.2.1 ∧ RelV p.2.2 q.2.2) es xs) (k : NestedKey) :
    RelO (valV (es.map fun e => (e.1, e.2.2)) k) ((atKey xs k).map (·.2)) := by
  induction r with
  | nil => exact True.intro
  | @cons p q ps qs h t ih =>
    obtain ⟨h1, _, h2⟩ := h
    rw [List.map_cons]
    by_cases e : p.1 = k
    · have e' : q.1 = k := h1.symm.trans e
      have b : atKey (q :: qs) k = some q.2 := by simp [atKey, List.find?_cons, e']
      rw [valV_pos e, b]; exact h2
    · have e' : ¬ q.1 = k := fun z => e (h1.trans z)
      have b : atKey (q :: qs) k = atKey qs k := by simp [atKey, List.find?_cons, e']
      rw [valV_neg e, b]; exact ih
/-- the entries behind a store -/
def ndPut (es : List (NestedKey × Addr × V)) (k : NestedKey) (b : Addr) (y : V) : List (NestedKey × Addr × V) :=
  if (es.any fun e => decide (e.1 = k)) = true then es.map fun e => if e.1 = k then (e.1, e.2.1, y) else e else es ++ [(k, b, y)]
theorem ndPut_map (es : List (NestedKey × Addr × V)) (k : NestedKey) (b : Addr) (y : V) : (ndPut es k b y).map (fun e => (e.1, e.2.2)) = putK (es.map fun e => (e.1, e.2.2)) k y := by
  unfold ndPut putK
  have e : ((es.map fun e => (e.1, e.2.2)).any fun kv => decide (kv.1 = k)) = (es.any fun e => decide (e.1 = k)) := by
    rw [List.any_map]; rfl
  rw [e]
  by_cases q : (es.any fun e => decide (e.1 = k)) = true
  · rw [if_pos q, if_pos q, List.map_map, List.map_map]
    refine List.map_congr_left fun x _ => ?_
    by_cases h : x.1 = k <;> simp [h]
  · rw [if_neg q, if_neg q]; simp
theorem ndPut_pair {es : List (NestedKey × Addr × V)} {xs : List (NestedKey × Addr × Value)} (r : Paired (fun p q => p.1 = q.1 ∧ p.2.1 = q.2.1 ∧ RelV p.2.2 q.2.2) es xs) (k : NestedKey) (b : Addr) {y : V} {u : Value} (ry : RelV y u) :
    Paired (fun p q => p.1 = q.1 ∧ p.2.1 = q.2.1 ∧ RelV p.2.2 q.2.2) (ndPut es k b y) (storedH xs k b u) := by
  have e : (es.any fun kv => decide (kv.1 = k)) = (atKey xs k).isSome := by
    have q := (nd_val r k).isSome_eq
    rw [Option.isSome_map] at q
    rw [← q, ← valV_any, List.any_map]; rfl
  unfold ndPut storedH
  rw [e]
  by_cases q : (atKey xs k).isSome = true
  · rw [if_pos q, if_pos q]
    clear e q
    induction r with
    | nil => exact .nil
    | @cons p q ps qs h t ih =>
      rw [List.map_cons, List.map_cons]
      refine .cons ?_ ih
      obtain ⟨h1, h2, h3⟩ := h
      unfold putAt
      by_cases e : p.1 = k
      · rw [if_pos e, if_pos (h1.symm.trans e)]; exact ⟨h1, h2, ry⟩
      · rw [if_neg e, if_neg (fun z => e (h1.trans z))]; exact ⟨h1, h2, h3⟩
  · rw [if_neg q, if_neg q]; exact Paired.snoc r ⟨rfl, rfl, ry⟩
theorem ndPut_len (es : List (NestedKey × Addr × V)) (k : NestedKey) (b : Addr) (y : V) : (ndPut es k b y).length ≤ es.length + 1 := by
  unfold ndPut
  split <;> simp
theorem ndPut_keys {H : Hp} {es : List (NestedKey × Addr × V)} (h2 : ∀ e ∈ es, NK H e.1 (.ref e.2.1) ∧ e.1.depth ≤ 8) {k : NestedKey} {b : Addr} (y : V) (hk : NK H k (.ref b)) (hd : k.depth ≤ 8) :
    ∀ e ∈ ndPut es k b y, NK H e.1 (.ref e.2.1) ∧ e.1.depth ≤ 8 := by
  unfold ndPut
  split
  · intro e he
    obtain ⟨e0, h0, rfl⟩ := List.mem_map.mp he
    split
    · exact h2 e0 h0
    · exact h2 e0 h0
  · intro e he
    rcases List.mem_append.mp he with h | h
    · exact h2 e h
    · rw [List.mem_singleton] at h; subst h; exact ⟨hk, hd⟩

section
variable {X : Cx} {pins : List (Addr × Obj)} {σ : L2.St} {H : Hp} {s : Shared} {a b : Addr} {k : NestedKey} {kvs : List (NestedKey × V)} {y v : V} {u r : Value} {A : Around} {E : Value → Shared → Prop}
theorem nd_room (hu : A.units + 64 < cLine) : (nestedKind X.prog X.w).room A.in1 := by
  show A.units + 1 + 8 < cLine
  omega
theorem nd_getItem {Q : Value → Shared → Prop} (hu : A.units + 64 < cLine) (I : Inv X pins σ H s) (d : ND X.prog X.w H a kvs) (hk : NK H k (.ref b)) (hd : k.depth ≤ 8) (g : valV kvs k = some v) (h : ∀ w' s', Inv X pins σ H s' → RelV v w' → Q w' s') :
    wpAny (model X.prog X.w) A (getItem (.ref a) (.ref b)) Q E s := by
  obtain ⟨_, _, es, xs, _, _, rfl, rel, dd⟩ := d.at I.hok
  obtain ⟨w', hw, rw'⟩ := RelO.some_of (v := v) (o := (atKey xs k).map (·.2)) (by rw [← g]; exact nd_val rel k)
  obtain ⟨p, hp, hp2⟩ := Option.map_eq_some_iff.mp hw
  refine wpAny_getItem_heap (nd_room hu) ⟨NK.isAt I.hok _ _ _ hk rfl, hd⟩ dd hp ?_
  rw [hp2]
  exact h w' _ (I.tok _) rw'
theorem nd_in {Q : Value → Shared → Prop} (hu : A.units + 64 < cLine) (I : Inv X pins σ H s) (d : ND X.prog X.w H a kvs) (hk : NK H k (.ref b)) (hd : k.depth ≤ 8) (h : ∀ s', Inv X pins σ H s' → Q (.bool (valV kvs k).isSome) s') :
    wpAny (model X.prog X.w) A (compareOp .In (.ref b) (.ref a)) Q E s := by
  obtain ⟨_, hs, es, xs, _, _, rfl, rel, dd⟩ := d.at I.hok
  refine wpAny_in_heap (nd_room hu) ⟨NK.isAt I.hok _ _ _ hk rfl, hd⟩ hs dd ?_
  have q := (nd_val rel k).isSome_eq
  rw [Option.isSome_map] at q
  rw [← q]
  exact h _ (I.tok _)
theorem nd_notIn {Q : Value → Shared → Prop} (hu : A.units + 64 < cLine) (I : Inv X pins σ H s) (d : ND X.prog X.w H a kvs) (hk : NK H k (.ref b)) (hd : k.depth ≤ 8) (h : ∀ s', Inv X pins σ H s' → Q (.bool (!(valV kvs k).isSome)) s') :
    wpAny (model X.prog X.w) A (compareOp .NotIn (.ref b) (.ref a)) Q E s := by
  obtain ⟨_, hs, es, xs, _, _, rfl, rel, dd⟩ := d.at I.hok
  refine wpAny_notIn_heap (nd_room hu) ⟨NK.isAt I.hok _ _ _ hk rfl, hd⟩ hs dd ?_
  have q := (nd_val rel k).isSome_eq
  rw [Option.isSome_map] at q
  rw [← q]
  exact h _ (I.tok _)
theorem nd_ok {P : Program} {w : World} {H' : Hp} {h' : Heap} {es : List (NestedKey × Addr × V)} {xs : List (NestedKey × Addr × Value)} (z : es.length ≤ sizeLine) (hd : (a == sysModules) = false)
    (rel : Paired (fun p q => p.1 = q.1 ∧ p.2.1 = q.2.1 ∧ RelV p.2.2 q.2.2) es xs) (dd : ∃ o des ep, h'.get? a = some o ∧ o.ExactDict ∧ o.data = .dict des ep ∧ des.toList = xs.map (entryOfKey (nestedKind P w)) ∧ (xs.map (·.1)).Nodup) : ObjOk P w H' h' a (NdO P w a es) := by
  obtain ⟨o, des, ep, q1, q2, q3, q4, q5⟩ := dd
  refine ⟨⟨z, hd, xs, rel, o, des, ep, q1, q2, q3, q4, q5⟩, ⟨o, q1⟩, fun h1 h2 hp hk => ?_⟩
  obtain ⟨z', hd', xs', r', o', des', ep', p1, p2, p3, p4, p5⟩ := hp
  exact ⟨z', hd', xs', r', o', des', ep', hk _ p1, p2, p3, p4, p5⟩
theorem nd_setItem {Q : Unit → Shared → Prop} (hu : A.units + 64 < cLine) (I : Inv X pins σ H s) (d : ND X.prog X.w H a kvs) (hk : NK H k (.ref b)) (hd : k.depth ≤ 8) (hl : kvs.length < sizeLine) (rv : RelV v r)
    (h : ∀ H' s', ND X.prog X.w H' a (putK kvs k v) → (∀ c, c ≠ a → H' c = H c) → Inv X pins σ H' s' → Q () s') : wpAny (model X.prog X.w) A (setItem (.ref a) (.ref b) r) Q E s := by
  obtain ⟨z, hs, es, xs, he, h2, rfl, rel, dd⟩ := d.at I.hok
  rw [List.length_map] at hl z
  have hz : xs.length ≤ sizeLine := by rw [← Paired.length rel]; exact z
  have hl' : (ndPut es k b v).length ≤ sizeLine := by have := ndPut_len es k b v; omega
  refine wpAny_setItem_heap (hsz := hz) (nd_room hu) ⟨NK.isAt I.hok _ _ _ hk rfl, hd⟩ dd fun h' dd' sb => ?_
  obtain ⟨q, qes, ep, hq, p2, p3, p4, _, p5⟩ := dd'
  have ht : ∀ c ys, H c = some (.tup ys) → upd H a (NdO X.prog X.w a (ndPut es k b v)) c = some (.tup ys) := fun c ys ec => by
    rw [upd_ne (ne_of ec he fun z => ndo_tup z.symm)]
    exact ec
  refine h (upd H a (NdO X.prog X.w a (ndPut es k b v))) _ ⟨_, upd_same, fun e hm => ?_, (ndPut_map es k b v).symm⟩ (fun c hc => upd_ne hc) (d_write I (by rw [he]; exact True.intro) sb ⟨q, hq⟩ (nd_ok hl' hs (ndPut_pair rel k b rv) ⟨q, qes, ep, hq, p2, p3, p4, p5⟩))
  obtain ⟨a1, a2⟩ := ndPut_keys h2 v hk hd e hm
  exact ⟨NK.mono ht _ _ a1, a2⟩
theorem nd_empty {P : Program} {w : World} {H : Hp} (h : Heap) (hb : sysModules < h.objs.size) : ObjOk P w H (h.push { cls := .type "dict", data := .dict #[] }) h.objs.size (NdO P w h.objs.size []) :=
  nd_ok (Nat.zero_le _) (beq_eq_false_iff_ne.mpr (Ne.symm (Nat.ne_of_lt hb))) .nil ⟨_, #[], 0, Heap.get?_push_size _ rfl, ⟨rfl, rfl, rfl⟩, rfl, rfl, List.nodup_nil⟩
end

/-! ### readings and rules -/
def tNGet (P : Program) (w : World) (td ty : TE) : TE := fun σ H Q => td σ H fun x H1 => ty σ H1 fun y H2 => ∃ a b kvs k v, x = .ref a ∧ y = .ref b ∧ ND P w H2 a kvs ∧ NK H2 k (.ref b) ∧ k.depth ≤ 8 ∧ valV kvs k = some v ∧ Q v H2
def tNIn (P : Program) (w : World) (neg : Bool) (ty td : TE) : TE := fun σ H Q => ty σ H fun y H1 => td σ H1 fun x H2 => ∃ a b kvs k, x = .ref a ∧ y = .ref b ∧ ND P w H2 a kvs ∧ NK H2 k (.ref b) ∧ k.depth ≤ 8 ∧ Q (.bl (if neg then !(valV kvs k).isSome else (valV kvs k).isSome)) H2
def sNPut (P : Program) (w : World) (td ty tv : TE) : TS := fun D σ H => tv σ H fun v H1 => td σ H1 fun x H2 => ty σ H2 fun y H3 => ∃ a b kvs k, x = .ref a ∧ y = .ref b ∧ ND P w H3 a kvs ∧ NK H3 k (.ref b) ∧ k.depth ≤ 8 ∧ kvs.length < sizeLine ∧
  ∀ H4, ND P w H4 a (putK kvs k v) → (∀ c, c ≠ a → H4 c = H3 c) → D.nx σ H4
def tNNew (P : Program) (w : World) : TE := fun _ H Q => ∀ p, H p = none → ND P w (upd H p (NdO P w p [])) p [] → Q (.ref p) (upd H p (NdO P w p []))
section
variable {X : Cx} {o i e value : Expr} {pos pos' tpos : Pos} {td ty tv : TE}
theorem pe_nget (hu : X.A.units + 64 < cLine) (ho : PE X o td) (hi : PE X i ty) (hs : NoSl i) : PE X (.Subscript o i pos) (tNGet X.prog X.w td ty) := by
  refine ⟨fun pins s σ H Q I h => ?_⟩
  refine subD_of PySem.F.slot_dict_getitem.lookup hs (thn (ho.run pins s σ H _ I h) fun u s1 ⟨x, H1, I1, rx, q1⟩ => thn (hi.run pins s1 σ H1 _ I1 q1) fun iv s2 ⟨y, H2, I2, ry, a, b, kvs, k, v, ex, ey, d, hk, hd, hv, q2⟩ => ?_)
  subst ex ey
  obtain rfl : u = Value.ref a := rx
  obtain rfl : iv = Value.ref b := ry
  have ht : s2.TypeIs (.ref a) "dict" := by
    obtain ⟨_, _, _, _, _, _, _, _, dd⟩ := d.at I2.hok
    exact dd.typeIs
  exact ⟨ht, nd_getItem hu I2 d hk hd hv fun w' s3 I3 rw' => ⟨v, H2, I3, rw', q2⟩⟩
theorem pc_nin (hu : X.A.units + 64 < cLine) (hi : PE X i ty) (ho : PE X o td) : PC X .In i o (tNIn X.prog X.w false ty td) := by
  refine ⟨fun pins s σ H Q I h => ?_⟩
  refine thn (hi.run pins s σ H _ I h) fun iv s1 ⟨y, H1, I1, ry, q1⟩ => thn (ho.run pins s1 σ H1 _ I1 q1) fun u s2 ⟨x, H2, I2, rx, a, b, kvs, k, ex, ey, d, hk, hd, q2⟩ => ?_
  subst ex ey
  obtain rfl : u = Value.ref a := rx
  obtain rfl : iv = Value.ref b := ry
  exact nd_in hu I2 d hk hd fun s3 I3 => ⟨.bl (valV kvs k).isSome, H2, I3, rfl, q2⟩
theorem pc_nnotin (hu : X.A.units + 64 < cLine) (hi : PE X i ty) (ho : PE X o td) : PC X .NotIn i o (tNIn X.prog X.w true ty td) := by
  refine ⟨fun pins s σ H Q I h => ?_⟩
  refine thn (hi.run pins s σ H _ I h) fun iv s1 ⟨y, H1, I1, ry, q1⟩ => thn (ho.run pins s1 σ H1 _ I1 q1) fun u s2 ⟨x, H2, I2, rx, a, b, kvs, k, ex, ey, d, hk, hd, q2⟩ => ?_
  subst ex ey
  obtain rfl : u = Value.ref a := rx
  obtain rfl : iv = Value.ref b := ry
  exact nd_notIn hu I2 d hk hd fun s3 I3 => ⟨.bl (!(valV kvs k).isSome), H2, I3, rfl, q2⟩
theorem ps_nput (hu : X.A.units + 64 < cLine) (ho : PE X o td) (hi : PE X i ty) (hv : PE X value tv) (hs : swapsWith value (some (.Subscript o i pos')) pos.line X.env = pure false) :
    PS X (.Assign [.Subscript o i pos'] value pos) (sNPut X.prog X.w td ty tv) := by
  refine ⟨fun pins s σ H D I h => ?_⟩
  refine wpAny_Assign_Subscript (thn (hv.run pins s σ H _ I h) fun r s1 ⟨v, H1, I1, rv, q1⟩ => thn (ho.run pins s1 σ H1 _ I1 q1) fun u s2 ⟨x, H2, I2, rx, q2⟩ => thn (hi.run pins s2 σ H2 _ I2 q2) fun iv s3 ⟨y, H3, I3, ry, a, b, kvs, k, ex, ey, d, hk, hd, hl, q3⟩ => ?_) hs
  subst ex ey
  obtain rfl : u = Value.ref a := rx
  obtain rfl : iv = Value.ref b := ry
  exact nd_setItem hu I3 d hk hd hl rv fun H4 s4 d4 e4 I4 => ⟨σ, H4, I4, q3 H4 d4 e4⟩
theorem pe_nnew : PE X (.Dict [] [] pos) (tNNew X.prog X.w) := ⟨fun pins s σ H Q I h => by
  have hf : H s.heap.objs.size = none := I.hok.fresh (Nat.le_refl _)
  refine wpAny_Dict_empty ⟨.ref s.heap.objs.size, _, I.laid (a := s.heap.objs.size) (o := NdO X.prog X.w s.heap.objs.size []) (t' := s.toks) (fun _ _ q => Heap.get?_push_of_some _ q) (Nat.le_refl _) (nd_empty s.heap I.big), rfl, h _ hf ?_⟩
  exact ⟨[], upd_same, fun e he => (nomatch he), rfl⟩⟩
end
end Rs

set_option Elab.async false
set_option linter.all false
set_option maxRecDepth 100000
set_option maxHeartbeats 2000000
/-! defs that ask for no guard around them (repr), repr of data -/
namespace Rs
open PySem L2 PySem.Spec PyProof.Rows

/-- a def's promise where no guard stands around -/
structure FnG (P : Program) (w : World) (K : PySem.W.Frag) (mg : Str → Option Value) (base : Heap) (CX : CXT) (k : Nat) (f : Addr) (fd : FuncData) (ps : List Str) (sp : Sp) : Prop where
  many : ∀ vs H Q E, sp vs H Q E → vs.length = ps.length
  goes : ∀ (A : Around) (around : List Env) (s : Shared) (H : Hp) (given : Args) (us : List Value) (vs : List V) (Q : VK) (E : XK), A.guards = some [] → Room k A → Env0 P w K mg base A around s H → BindsTo s fd given (ps.zip us) → Vals vs us →
    sp vs H Q E → codeAny (model P w) A (.call (.ref f) given) (CR CX around P w H s Q E) s
theorem FnG.ofOk {P : Program} {w : World} {K : PySem.W.Frag} {mg : Str → Option Value} {base : Heap} {CX : CXT} {k : Nat} {f : Addr} {fd : FuncData} {ps : List Str} {sp : Sp} (F : FnOk P w K mg base CX k f fd ps sp) : FnG P w K mg base CX k f fd ps sp :=
  ⟨F.len, fun A around s H given us vs Q E _ => F.run A around s H given us vs Q E⟩
section
variable {P : Program} {w : World} {K : PySem.W.Frag} {mg : Str → Option Value} {base : Heap}
theorem okG {x qual : Str} {st : Stmt} {f : Addr} {fd : FuncData} {N ps : List Str} {k : Nat} {sp : Sp} (F : Fun K x qual st f fd) (S : FnScope N ps (defScope st)) (hlen : ∀ vs H Q E, sp vs H Q E → vs.length = ps.length)
    (body : ∀ (cdv : Value) (A : Around) (around : List Env) (s : Shared) (H : Hp) (vs : List V) (Q : VK) (E : XK), (A.deeper (envOfC qual (defScope st) s.heap.objs.size f cdv)).guards = some [] → Room k (A.deeper (envOfC qual (defScope st) s.heap.objs.size f cdv)) → sp vs H Q E →
      ∃ t, PSs (cxOf CX0 P w K mg base N qual (defScope st) f cdv A around s H E).nox (defBody st) t ∧ t { nx := fun _ H' => Q .non H', rt := Q } (start N vs) H) : FnG P w K mg base CX0 (k + 1) f fd ps sp := by
  obtain ⟨oc, od, kV, doc, pm, an, cdv, ct, osl, rfl, lk, hcd⟩ := F.ex
  refine ⟨hlen, fun A around s H given us vs Q E hg hr e0 hb r hsp => ?_⟩
  refine LamX.run_ofS lk hcd S hr e0 hb r (hlen _ _ _ _ hsp) fun hr' => ?_
  obtain ⟨t, h, q⟩ := body cdv A around s H vs Q E (by first | exact hg | (simpa [Around.deeper] using hg)) hr' hsp
  exact ⟨t, h.nox, q⟩
end
section
variable {X : Cx} {CX : CXT} {k : Nat} {f : Addr} {fd : FuncData} {ps : List Str} {sp : Sp} {E : XK} {x : Str} {p pos : Pos} {e : Expr} {es : List Expr} {t : TA}
theorem goes_fn {pins : List (Addr × Obj)} {σ : L2.St} {H : Hp} {s : Shared} {Q : VK} {us : List Value} {vs : List V} (F : FnG X.prog X.w X.K X.mg X.base CX k f fd ps sp) (hgd : X.A.guards = some []) (hr : Room k X.A) (hb : Binds X.K fd ps []) (hx : Passes CX X E)
    (I : Inv X pins σ H s) (r : Vals vs us) (h : sp vs H Q E) : wpAny (model X.prog X.w) X.A (call (.ref f) us) (EP X pins σ Q) X.xe s := by
  have hl : us.length = ps.length := by rw [← r.length]; exact F.many _ _ _ _ h
  have bd : BindsTo s fd ⟨us, []⟩ (ps.zip us) := by
    have q := hb s us I.kIn (by rw [List.append_nil]; exact hl)
    rw [List.append_nil] at q
    exact q
  refine wpAny_call (codeAny_mono (F.goes X.A X.stack s H ⟨us, []⟩ us vs Q E hgd hr I.env0 bd r h) fun z s' hq => ?_)
  match z, hq with
  | .error e, hq => exact hx pins σ H s e s' I hq
  | .ok (.ret u), hq => exact I.after hq
  | .ok .next, hq => exact False.elim hq
  | .ok .brk, hq => exact False.elim hq
  | .ok .cont, hq => exact False.elim hq
/-- f(e, ..), no guard around -/
theorem pe_callG (F : FnG X.prog X.w X.K X.mg X.base CX k f fd ps sp) (hgd : X.A.guards = some []) (hr : Room k X.A) (hg : Gl X x) (hm : X.mg x = some (.ref f)) (hk : PySem.W.keepIn X.K (.ref f) = true) (hb : Binds X.K fd ps []) (hx : Passes CX X E)
    (ha : PA X (e :: es) t) (hdb : (x == ("__debug__" : Str)) = false := by decide) (he : starEach (e :: es) X.env = (false, eval e X.env) :: starEach es X.env := by rfl) (hpl : (backTo pos (starEach es X.env)).any (·.1) = false := by rfl) :
    PE X (.Call (.Name x p) (e :: es) [] pos) (fun σ H Q => t σ H fun vs H1 => sp vs H1 Q E) := by
  refine ⟨fun pins s σ H Q I h => wpAny_Call_Name_kw (ld_glob I hg hm ?_ hdb)⟩
  refine PySem.W.callWith_K (h₀ := X.base) I.ok.mod.kin hk (thn (ha.run pos pins s σ H _ I h) fun us s1 ⟨vs, H1, I1, r, q⟩ => ⟨I1.kIn, goes_fn F hgd hr hb hx I1 r q⟩) he hpl
/-- repr(d), d a list or tuple of data -/
theorem call_reprD (hgd : X.A.guards = some []) (hu : X.A.units + 128 < cLine) :
    CallR X (.builtin "repr") (fun xs H Q => ∃ a d, xs = [V.ref a] ∧ Dp X.K H (.ref a) d ∧ d.showable = true ∧ d.hasDict = false ∧ d.depth ≤ 60 ∧ d.shown.length ≤ sizeLine ∧ Q (.str d.shown) H) := by
  intro pins s σ H xs us Q I r h
  obtain ⟨a, d, rfl, hd, h1, h2, h3, h4, q⟩ := h
  obtain ⟨u, rfl, ru⟩ := vals1 r
  obtain rfl : u = Value.ref a := ru
  obtain ⟨as, rd⟩ := Dp.reads I d _ _ hd rfl
  exact repr_of_reads' rd h1 (fun z => by rw [h2] at z; cases z) hgd (by omega) (fun _ _ z => z) (fun h' v tk hk => ⟨.str d.shown, H, I.kept hk, ⟨_, rfl⟩, q⟩) h4
end
/-- the end of a law's row, no guard around -/
theorem lawG {P : Program} {w : World} {K : PySem.W.Frag} {mg mb : Str → Option Value} {k : Nat} {fa a : Addr} {fd : FuncData} {x : Str} {sp : Sp} {s₁ : Shared} {vs : List Value} {ns : List Int}
    (KX : K.In s₁.heap) (hns : s₁.heap.Ns mainGlobals mg) (hb : s₁.heap.Ns builtinsNs mb) (hbb : ∀ x : Str, x ≠ "__name__" → mb x = bootBuiltins x) (hlim : s₁.heap.NoLimit) (hg : s₁.gens = #[])
    (ha : s₁.heap.get? a = some { cls := .type "list", data := .seq vs.toArray }) (hi : IntsAre vs ns) (hl : ns.length ≤ sizeLine) (hr : Room k callerA)
    (F : ∀ base : Heap, K.In base → base.Ns mainGlobals mg → FnG P w K mg base CX0 k fa fd [x] sp) (hbind : ∀ (s : Shared) (u : Value), BindsTo s fd ⟨[u], []⟩ [(x, u)])
    (hsp : ∀ H : Hp, Only H → SqL K H a (ns.map V.int) → sp [.ref a] H (fun v _ => v = .bl true) fun _ _ _ => False)
    (hCX : ∀ H e s', CX0 [] H s₁ (fun _ _ _ => False) e s' → False) :
    codeAny (model P w) callerA (.call (.ref fa) ⟨[.ref a], []⟩) (fun r s' => r = .ok (.ret (.bool true)) ∧ OldK s₁.heap s'.heap ∧ s'.os = s₁.os ∧ AllBare s'.gens) s₁ := by
  have vi := vals_ints hi
  -- the law's run from an abstract heap that knows at most the script
  have go : ∀ H : Hp, Only H → SqL K H a (ns.map V.int) → HOk P w H s₁.heap → (∀ b, H b ≠ none → b = a) → (H a ≠ none → K.lookup a = none) →
      codeAny (model P w) callerA (.call (.ref fa) ⟨[.ref a], []⟩) (fun r s' => r = .ok (.ret (.bool true)) ∧ OldK s₁.heap s'.heap ∧ s'.os = s₁.os ∧ AllBare s'.gens) s₁ := by
    intro H hO hS hok hA hK
    have free : ∀ {b : Addr}, b ≠ a → H b = none := fun {b} hb => by
      by_cases q : H b = none
      · exact q
      · exact absurd (hA b q) hb
    have noD : ∀ {b : Addr} {o : Obj} {es : Array DictEntry} {ep : Nat}, s₁.heap.get? b = some o → o.data = .dict es ep → H b = none := fun {b o es ep} e d => by
      by_cases hb : b = a
      · subst hb
        rw [ha] at e
        cases e
        exact absurd d (fun z => nomatch z)
      · exact free hb
    have nsB : ∀ {b : Addr} {m : Str → Option Value}, s₁.heap.Ns b m → (hidT s₁.heap H).Ns b m := fun {b m} ⟨o, es, ep, e, d, r⟩ => ⟨o, es, ep, hidT_get e (noD e d), d, r⟩
    have kB : K.In (hidT s₁.heap H) := fun b o e => by
      refine hidT_get (KX b o e) ?_
      by_cases hb : b = a
      · subst hb
        by_cases q : H b = none
        · exact q
        · rw [hK q] at e
          cases e
      · exact free hb
    have mB : Mod K mg (hidT s₁.heap H) := ⟨kB, nsB hns, ⟨mb, nsB hb, hbb⟩, let ⟨mc, h1, h2⟩ := hlim; ⟨mc, nsB h1, h2⟩⟩
    have e0 : Env0 P w K mg (hidT s₁.heap H) callerA [] s₁ H := ⟨rfl, mB, fun b o e => of_hidT e, Nat.le_of_eq (hidT_size _ _), trivial, fun b hb => (List.not_mem_nil (show b ∈ ([] : List Addr) from hb)).elim, hok, .of_eq hg⟩
    refine codeAny_mono ((F _ kB (nsB hns)).goes callerA [] s₁ H ⟨[.ref a], []⟩ [.ref a] [.ref a] _ _ rfl hr e0 (hbind s₁ (.ref a)) (.cons rfl .nil) (hsp H hO hS)) fun r s' h => ?_
    match r, h with
    | .error e, h => exact (hCX H e s' h).elim
    | .ok .next, h => exact False.elim h
    | .ok .brk, h => exact False.elim h
    | .ok .cont, h => exact False.elim h
    | .ok (.ret u), h =>
      obtain ⟨v, H', os, bare, un, ok', ru, q⟩ := h
      have q' : v = .bl true := q
      subst q'
      obtain rfl : u = Value.bool true := ru
      refine ⟨rfl, OldK.of_keep fun b o e => ?_, os, bare⟩
      cases q : H b with
      | none => exact un.keep b o e q (fun z => (List.not_mem_nil (show b ∈ ([] : List Addr) from z)).elim) List.not_mem_nil
      | some u =>
        rcases hO b with z | ⟨ob, xs, z⟩
        · rw [q] at z; cases z
        · obtain ⟨e1, _⟩ := hok b _ z
          obtain ⟨e2, _⟩ := ok' b _ (un.frzs b ob _ z)
          rw [e] at e1
          cases e1
          exact e2
  have hl' : (ns.map V.int).length ≤ sizeLine := by rw [List.length_map]; exact hl
  cases hk : K.lookup a with
  | some o =>
    have e := KX a o hk
    rw [ha] at e
    cases e
    have vlen := hi.length
    exact go (fun _ => none) (fun _ => .inl rfl) (.inr ⟨_, vs.toArray, _, hk, rfl, rfl, rfl, by rw [List.size_toArray, vlen]; exact hl, by simpa using vi⟩) (fun b u z => nomatch (show (none : Option HO) = some u from z)) (fun b z => (z rfl).elim) fun z => (z rfl).elim
  | none =>
    have here : ∀ b, b = a → (fun c => if c = a then some (HO.frz { cls := .type "list", data := .seq vs.toArray } (.lst (ns.map V.int))) else none) b = some (HO.frz { cls := .type "list", data := .seq vs.toArray } (.lst (ns.map V.int))) := fun b hb => if_pos hb
    have off : ∀ b, b ≠ a → (fun c => if c = a then some (HO.frz { cls := .type "list", data := .seq vs.toArray } (.lst (ns.map V.int))) else none) b = none := fun b hb => if_neg hb
    refine go (fun c => if c = a then some (HO.frz { cls := .type "list", data := .seq vs.toArray } (.lst (ns.map V.int))) else none) (fun b => ?_) (.inl (.inr ⟨{ cls := .type "list", data := .seq vs.toArray }, here a rfl⟩)) (fun b u z => ?_) (fun b z => ?_) fun _ => hk
    · by_cases hb : b = a
      · exact .inr ⟨_, _, here b hb⟩
      · exact .inl (off b hb)
    · by_cases hb : b = a
      · have e := (here b hb).symm.trans z
        cases e
        subst hb
        exact ⟨ha, hl', vs, _, vi, ha⟩
      · have e := (off b hb).symm.trans z
        cases e
    · by_cases hb : b = a
      · exact hb
      · exact (z (off b hb)).elim
theorem walkG {l : PySem.W.OpenLaw} {n k : Nat} {q : Program} {loose : List Str} {XP : (Str → Option Value) → Heap → Prop} {YP : World → Heap → Prop} {d : DefRec} {K : Params → PySem.W.Frag} {sp : World → Sp} {x : Str}
    (hn : l.most = some n) (hn2 : n ≤ sizeLine) (hdf : d.params.defaults = []) (hr : Room k callerA) (hY : ∀ (w : World) (h : Heap), YP w h → (K w.params).In h)
    (F : ∀ (w : World) (mg : Str → Option Value) (fa : Addr) (h : Heap), (K w.params).In h → h.Ns mainGlobals mg → mg d.name = some (.ref fa) →
      ∃ fd : FuncData, (∀ (s : Shared) (u : Value), BindsTo s fd ⟨[u], []⟩ [(x, u)]) ∧ ∀ base : Heap, (K w.params).In base → base.Ns mainGlobals mg → FnG l.prog w (K w.params) mg base CX0 k fa fd [x] (sp w))
    (hsp : ∀ (w : World) (H : Hp) (a : Addr) (ns : List Int), ns.length ≤ n → Only H → SqL (K w.params) H a (ns.map V.int) → sp w [.ref a] H (fun v _ => v = .bl true) fun _ _ _ => False) :
    PySem.W.WalkO q loose XP YP l.row.toRowW d [] (fun f vs => PySem.call f vs) := by
  refine Att.attach_call hn hdf fun w s₀ s₁ mg mb fa o pm cd doc a vs ns G Y ho hd hcd hmg hobj hints hlen hg => ?_
  obtain ⟨fd, hb, hF⟩ := F w mg fa _ (hY w _ Y) G.T.g hmg
  exact lawG (hY w _ Y) G.T.g G.T.b G.T.builtins G.T.nolimit hg hobj hints (Nat.le_trans hlen hn2) hr hF hb (fun H hO hS => hsp w H a ns hlen hO hS) fun _ _ _ z => z
end Rs

set_option Elab.async false
set_option linter.all false
set_option maxRecDepth 100000
set_option maxHeartbeats 4000000
/-! readings, one lemma a letter; two tactics -/
namespace Rs
open PySem L2 PySem.Spec PyProof.Rows

/-- what stood stands, but for some objects -/
def Fm (S : List Addr) (H H' : Hp) : Prop := ∀ a o, H a = some o → a ∉ S → H' a = some o
section
variable {S T : List Addr} {H H' H1 : Hp} {a p : Addr} {o u : HO} {K : PySem.W.Frag} {xs : List V}
theorem Fm.refl (S : List Addr) (H : Hp) : Fm S H H := fun _ _ h _ => h
theorem Fm.trans (a : Fm S H H1) (b : Fm S H1 H') : Fm S H H' := fun x o h n => b x o (a x o h n) n
theorem Fm.wide (a : Fm S H H') (h : ∀ x ∈ S, x ∈ T) : Fm T H H' := fun x o e n => a x o e fun z => n (h x z)
theorem Fm.nil (a : Fm [] H H') : Fm T H H' := a.wide fun _ h => (List.not_mem_nil h).elim
theorem Fm.new (h : H p = none) : Fm S H (upd H p o) := fun a u e _ => by
  rw [upd_ne (ne_of_none e h)]
  exact e
theorem Fm.put (h : p ∈ S) : Fm S H (upd H p o) := fun a u e n => by
  rw [upd_ne (fun z => n (by rw [z]; exact h))]
  exact e
theorem Fm.thenNew (f : Fm S H H') (h : H' p = none) : Fm S H (upd H' p o) := f.trans (Fm.new h)
theorem Fm.thenPut (f : Fm S H H') (h : p ∈ S) : Fm S H (upd H' p o) := f.trans (Fm.put h)
/-- an object that was not there may change -/
theorem Fm.thenOwn (f : Fm S H H') (h : H p = none) : Fm S H (upd H' p o) := fun a u e n => by
  rw [upd_ne (ne_of_none e h)]
  exact f a u e n
theorem Fm.drop (f : Fm (p :: S) H H') (h : H p = none) : Fm S H H' := fun a u e n => f a u e fun z => (List.mem_cons.mp z).elim (fun q => ne_of_none e h q) n
theorem Fm.rd (f : Fm S H H') (h : Rd H a u) (n : a ∉ S) : Rd H' a u := by
  rcases h with h | ⟨o, h⟩
  · exact .inl (f _ _ h n)
  · exact .inr ⟨o, f _ _ h n⟩
theorem Fm.seqL (f : Fm S H H') (h : SqL K H a xs) (n : a ∉ S) : SqL K H' a xs := by
  rcases h with h | h
  · exact .inl (f.rd h n)
  · exact .inr h
theorem Fm.seqT (f : Fm S H H') (h : SqT K H a xs) (n : a ∉ S) : SqT K H' a xs := by
  rcases h with h | h
  · exact .inl (f.rd h n)
  · exact .inr h
theorem Fm.none (f : Fm S H H') (h : H' a = Option.none) (n : a ∉ S) : H a = Option.none := by
  cases q : H a with
  | none => rfl
  | some o => rw [f _ _ q n] at h; cases h
theorem not_in1 (h : a ≠ p) : a ∉ [p] := fun z => h (List.mem_singleton.mp z)
end

section
variable {σ : L2.St} {H : Hp} {K : PySem.W.Frag} {Q : VK} {QA : List V → Hp → Prop} {QT : Bool → Hp → Prop} {QO : Option Int → Hp → Prop} {ta tb te tc : TE} {t : TA} {c d : TT} {D : Ends} {s u : TS} {v x y : V} {vs : List V} {r : R2} {i j : Int} {p l b : Addr} {xs ys : List V} {k : Bool}
theorem w_var {i : Nat} (h : σ[i]? = some (some v)) (k : Q v H) : tVar i σ H Q := ⟨v, h, k⟩
theorem w_c (k : Q v H) : tC v σ H Q := k
theorem w_op (k : ta σ H fun x H1 => tb σ H1 fun y H2 => r x y H2 Q) : tOp r ta tb σ H Q := k
theorem w_un {r : V → Hp → VK → Prop} (k : ta σ H fun x H1 => r x H1 Q) : tUn r ta σ H Q := k
theorem w_test (k : te σ H fun x H' => ∃ k, x = .bl k ∧ QT k H') : tTest te σ H QT := k
theorem w_B (k : te σ H fun x H' => ∃ k, x = .bl k ∧ QT k H') : tB te σ H QT := k
theorem w_bl (h : QT k H) : ∃ c, V.bl k = .bl c ∧ QT c H := ⟨k, rfl, h⟩
theorem w_not (k : c σ H fun b H1 => QT (!b) H1) : tNot c σ H QT := k
theorem w_and (k : c σ H fun b H1 => if b = true then d σ H1 QT else QT false H1) : tAnd c d σ H QT := k
theorem w_or (k : c σ H fun b H1 => if b = true then QT true H1 else d σ H1 QT) : tOr c d σ H QT := k
theorem w_andV (k : ta σ H fun x H1 => ∃ c, x = .bl c ∧ if c = true then tb σ H1 Q else Q (.bl false) H1) : tAndV ta tb σ H Q := k
theorem w_orV (k : ta σ H fun x H1 => ∃ c, x = .bl c ∧ if c = true then Q (.bl true) H1 else tb σ H1 Q) : tOrV ta tb σ H Q := k
theorem w_notV (k : ta σ H fun x H1 => ∃ c, x = .bl c ∧ Q (.bl (!c)) H1) : tNotV ta σ H Q := k
theorem w_bool {P : Bool → Prop} (h : P k) : ∃ c, V.bl k = .bl c ∧ P c := ⟨k, rfl, h⟩
theorem w_if (k : c σ H fun b H1 => if b = true then ta σ H1 Q else tb σ H1 Q) : tIf c ta tb σ H Q := k
theorem w_cb {r : List V → Hp → VK → Prop} (k : t σ H fun vs H1 => r vs H1 Q) : tCB r t σ H Q := k
theorem w_nil (k : QA [] H) : tNil σ H QA := k
theorem w_cons (k : te σ H fun x H1 => t σ H1 fun xs H2 => QA (x :: xs) H2) : tCons te t σ H QA := k
theorem w_lst (k : t σ H fun xs H1 => xs.length ≤ sizeLine ∧ ∀ p, H1 p = none → Q (.ref p) (upd H1 p (.lst xs))) : tLst t σ H Q := k
theorem w_tup (k : t σ H fun xs H1 => xs.length ≤ sizeLine ∧ ∀ p, H1 p = none → Q (.ref p) (upd H1 p (.tup xs))) : tTup t σ H Q := k
theorem w_small {n : Nat} (h : n ≤ 100000) {P : Prop} (k : P) : n ≤ sizeLine ∧ P := ⟨Nat.le_trans h (by decide), k⟩
theorem w_sl {r : V → Option Int → Option Int → Hp → VK → Prop} {tl th : TO} (k : te σ H fun x H1 => tl σ H1 fun l H2 => th σ H2 fun u H3 => r x l u H3 Q) : tSl r te tl th σ H Q := k
theorem w_part (k : te σ H fun x H1 => ∃ i, x = .int i ∧ QO (some i) H1) : tPart te σ H QO := k
theorem w_intO {P : Int → Prop} (h : P i) : ∃ j, V.int i = .int j ∧ P j := ⟨i, rfl, h⟩
theorem w_nopart (k : QO none H) : tNoPart σ H QO := k
theorem w_asg {g : TG} (k : te σ H fun x H1 => g x σ H1 D.nx) : tAsg te g D σ H := k
theorem w_name {i : Nat} {QS : L2.St → Hp → Prop} (k : QS (σ.set i (some v)) H) : gName i v σ H QS := k
theorem w_gsub {t : TSet} {QS : L2.St → Hp → Prop} (k : ta σ H fun o H1 => tb σ H1 fun i H2 => t o i v H2 fun H3 => QS σ H3) : gSub ta tb t v σ H QS := k
theorem w_ret (k : te σ H D.rt) : tRet te D σ H := k
theorem w_retN (k : D.rt .non H) : tRetN D σ H := k
theorem w_drop (k : te σ H fun _ H1 => D.nx σ H1) : tDrop te D σ H := k
theorem w_seq (k : s { D with nx := u D } σ H) : tSeq s u D σ H := k
theorem w_next (k : D.nx σ H) : tNext D σ H := k
theorem w_ifS (k : c σ H fun b H1 => if b = true then s D σ H1 else u D σ H1) : tIfS c s u D σ H := k
theorem w_I0 {g : Int → Int → V} (k : Q (g i j) H) : rI0 g (.int i) (.int j) H Q := ⟨i, j, rfl, rfl, k⟩
theorem w_I {C : Int → Int → Prop} {g : Int → Int → V} (h : C i j) (k : Q (g i j) H) : rI C g (.int i) (.int j) H Q := ⟨i, j, rfl, rfl, h, k⟩
theorem w_eqI (k : Q (.bl (decide (i = j))) H) : rEq (.int i) (.int j) H Q := ⟨rfl, by
  have e : decide (V.int i = V.int j) = decide (i = j) := decide_eq_decide.mpr ⟨fun z => V.int.inj z, fun z => by rw [z]⟩
  rw [e]
  exact k⟩
theorem w_neI (k : Q (.bl (!decide (i = j))) H) : rNe (.int i) (.int j) H Q := ⟨rfl, by
  have e : decide (V.int i = V.int j) = decide (i = j) := decide_eq_decide.mpr ⟨fun z => V.int.inj z, fun z => by rw [z]⟩
  rw [e]
  exact k⟩
theorem w_eqS {x y : Str} (k : Q (.bl (decide (x = y))) H) : rEq (.str x) (.str y) H Q := ⟨rfl, by
  have e : decide (V.str x = V.str y) = decide (x = y) := decide_eq_decide.mpr ⟨fun z => V.str.inj z, fun z => by rw [z]⟩
  rw [e]
  exact k⟩
theorem w_neS {x y : Str} (k : Q (.bl (!decide (x = y))) H) : rNe (.str x) (.str y) H Q := ⟨rfl, by
  have e : decide (V.str x = V.str y) = decide (x = y) := decide_eq_decide.mpr ⟨fun z => V.str.inj z, fun z => by rw [z]⟩
  rw [e]
  exact k⟩
theorem w_ixL (h : SqL K H p xs) (ha : atI xs i = some v) (k : Q v H) : rIxL K (.ref p) (.int i) H Q := ⟨p, xs, i, v, rfl, rfl, h, ha, k⟩
theorem w_ixT (h : SqT K H p xs) (ha : atI xs i = some v) (k : Q v H) : rIxT K (.ref p) (.int i) H Q := ⟨p, xs, i, v, rfl, rfl, h, ha, k⟩
theorem w_cutL {lo hi : Option Int} (h : SqL K H p xs) (k : ∀ q, H q = none → Q (.ref q) (upd H q (.lst (cutV xs lo hi)))) : rSlL K (.ref p) lo hi H Q := ⟨p, xs, rfl, h, k⟩
theorem w_cat (h : H l = some (.lst xs)) (h2 : H b = some (.lst ys)) (hz : xs.length + ys.length ≤ sizeLine) (k : ∀ p, H p = none → Q (.ref p) (upd H p (.lst (xs ++ ys)))) : rCat (.ref l) (.ref b) H Q := ⟨l, b, xs, ys, rfl, rfl, h, h2, hz, k⟩
/-- int(n) of an int; abs(n); len of a list or tuple -/
def rInt : List V → Hp → VK → Prop := fun xs H Q => ∃ i, xs = [.int i] ∧ Q (.int i) H
def rAbs : List V → Hp → VK → Prop := fun xs H Q => ∃ i, xs = [.int i] ∧ Q (.int (if i < 0 then -i else i)) H
def rLenX (K : PySem.W.Frag) : List V → Hp → VK → Prop := fun xs H Q => ∃ p ys, xs = [.ref p] ∧ (SqL K H p ys ∨ SqT K H p ys) ∧ Q (.int ys.length) H
theorem w_int (k : Q (.int i) H) : rInt [.int i] H Q := ⟨i, rfl, k⟩
theorem w_abs (k : Q (.int (if i < 0 then -i else i)) H) : rAbs [.int i] H Q := ⟨i, rfl, k⟩
theorem w_lenL (h : SqL K H p xs) (k : Q (.int xs.length) H) : rLenX K [.ref p] H Q := ⟨p, xs, rfl, .inl h, k⟩
theorem w_lenT (h : SqT K H p xs) (k : Q (.int xs.length) H) : rLenX K [.ref p] H Q := ⟨p, xs, rfl, .inr h, k⟩
theorem w_setL {j : Nat} {QH : Hp → Prop} (h : H p = some (.lst xs)) (hi : ixN xs.length i = some j) (k : QH (upd H p (.lst (xs.set j v)))) : rSetL (.ref p) (.int i) v H QH := ⟨p, xs, i, j, rfl, rfl, h, hi, k⟩
theorem w_augS {tget : V → V → Hp → VK → Prop} {tip : TIp} {tset : TSet} (k : ta σ H fun o H1 => tb σ H1 fun i H2 => tget o i H2 fun x H3 => te σ H3 fun y H4 => tip x y H4 fun z H5 => tset o i z H5 fun H6 => D.nx σ H6) : tAugS ta tb te tget tip tset D σ H := k
theorem w_ip {f : Int → Int → Int} (k : Q (.int (f i j)) H) : ipI f (.int i) (.int j) H Q := ⟨i, j, rfl, rfl, k⟩
theorem w_fld {P : V → Prop} {f : Str} {C dx : Addr} {fs : List (Str × V)} (hc : Cls K C) (hn : NoAttr K C f) (ha : H p = some (.ins C dx fs)) (hl : fs.lookup f = some v) (k : P v) : ∃ a C dx fs v, V.ref p = .ref a ∧ H a = some (.ins C dx fs) ∧ Cls K C ∧ NoAttr K C f ∧ fs.lookup f = some v ∧ P v := ⟨p, C, dx, fs, v, rfl, ha, hc, hn, hl, k⟩
theorem w_tfld {f : Str} (k : ta σ H fun x H1 => ∃ a C dx fs v, x = .ref a ∧ H1 a = some (.ins C dx fs) ∧ Cls K C ∧ NoAttr K C f ∧ fs.lookup f = some v ∧ Q v H1) : tFld K ta f σ H Q := k
/-- an item of a list, read for a store -/
def rGetL (K : PySem.W.Frag) : V → V → Hp → VK → Prop := fun o i H Q => ∃ (p : Addr) (xs : List V) (j : Nat) (v : V), o = .ref p ∧ i = .int (j : Int) ∧ SqL K H p xs ∧ xs[j]? = some v ∧ Q v H
theorem w_getL {j : Nat} (hi : i = (j : Int)) (h : SqL K H p xs) (hx : xs[j]? = some v) (k : Q v H) : rGetL K (.ref p) (.int i) H Q := ⟨p, xs, j, v, rfl, by rw [hi], h, hx, k⟩
theorem w_cut {M : L2.St → Hp → Prop} (h : s { D with nx := M } σ H) (k : ∀ σ' H', M σ' H' → u D σ' H') : Evl.tCut s u D σ H := ⟨M, h, k⟩
/-- a loop over J; a list built over J -/
abbrev ForG (J : It) (g : TG) (tb : TS) (D : Ends) (σ : L2.St) (H : Hp) : Prop := ∃ W : Nat → Nat → L2.St → Hp → Prop, (∃ m, W 0 m σ H) ∧ ∀ i m σ H, W i m σ H →
  (J.stop i H ∧ D.nx σ H) ∨ (J.go i H ∧ ∃ N : L2.St → Hp → Prop, (∀ σ' H', N σ' H' → ∃ m', m' < m ∧ W (i + 1) m' σ' H') ∧ ∀ x H', J.yld i H x H' → g x σ H' fun σ2 H2 => tb { D with nx := N, ct := N, bk := D.nx } σ2 H2)
abbrev LcG (J : It) (g : TG) (tt : TT) (te : TE) (js : List Nat) (Q : VK) (σ : L2.St) (H : Hp) : Prop := ∀ D, H D = none → ∃ W : Nat → Nat → Hp → Prop, (∃ m, W 0 m (upd H D (.lst []))) ∧ ∀ i m H, W i m H →
  (J.stop i H ∧ Q (.ref D) H) ∨ (J.go i H ∧ ∃ Nx : Hp → Prop, (∀ H', Nx H' → ∃ m', m' < m ∧ W (i + 1) m' H') ∧ ∀ x H', J.yld i H x H' → g x (wipe σ js) H' fun σ2 H2 => wipe σ2 js = wipe σ js ∧ tt σ2 H2 fun b H3 =>
    if b = true then te σ2 H3 fun y H4 => ∃ acc, H4 D = some (.lst acc) ∧ acc.length < sizeLine ∧ Nx (upd H4 D (.lst (acc ++ [y]))) else Nx H3)
theorem w_forL {g : TG} {tb : TS} (k : te σ H fun x H1 => ∃ a, x = .ref a ∧ (∃ xs, SqL K H1 a xs) ∧ ForG (Itl K a) g tb D σ H1) : tFor (iList K te) g tb D σ H := k
theorem w_forT {g : TG} {tb : TS} (k : te σ H fun x H1 => ∃ a, x = .ref a ∧ (∃ xs, SqT K H1 a xs) ∧ ForG (Itt K a) g tb D σ H1) : tFor (iTup K te) g tb D σ H := k
theorem w_forR1 {g : TG} {tb : TS} (k : t σ H fun vs H1 => ∃ j : Int, vs = [.int j] ∧ -(2 ^ 62) ≤ j ∧ j < 2 ^ 62 ∧ ForG (Itr 0 j.toNat) g tb D σ H1) : tFor (iRng1 t) g tb D σ H := k
theorem w_forR2 {g : TG} {tb : TS} (k : t σ H fun vs H1 => ∃ i j : Int, vs = [.int i, .int j] ∧ (-(2 ^ 62) ≤ i ∧ i < 2 ^ 62 ∧ -(2 ^ 62) ≤ j ∧ j < 2 ^ 62) ∧ ForG (Itr i (j - i).toNat) g tb D σ H1) : tFor (iRng2 t) g tb D σ H := k
theorem w_forE {g : TG} {tb : TS} (k : t σ H fun vs H1 => ∃ a xs, vs = [.ref a] ∧ SqL K H1 a xs ∧ ForG (Ite K a) g tb D σ H1) : tFor (iEnum K t) g tb D σ H := k
theorem w_lcL {g : TG} {tt : TT} {js : List Nat} {tl : TE} (k : tl σ H fun x H1 => ∃ a, x = .ref a ∧ (∃ xs, SqL K H1 a xs) ∧ LcG (Itl K a) g tt te js Q σ H1) : tLc (iList K tl) g tt te js σ H Q := k
theorem w_lcR1 {g : TG} {tt : TT} {js : List Nat} (k : t σ H fun vs H1 => ∃ j : Int, vs = [.int j] ∧ -(2 ^ 62) ≤ j ∧ j < 2 ^ 62 ∧ LcG (Itr 0 j.toNat) g tt te js Q σ H1) : tLc (iRng1 t) g tt te js σ H Q := k
theorem w_insert {QN : VK} (h : H l = some (.lst xs)) (hz : xs.length < sizeLine) (h0 : 0 ≤ i) (h1 : i < 2 ^ 63) (k : QN .non (upd H l (.lst (xs.take i.toNat ++ [y] ++ xs.drop i.toNat)))) : ∃ (l' : Addr) (xs : List V) (i' : Int) (y' : V), V.ref l = .ref l' ∧ [V.int i, y] = [.int i', y'] ∧ H l' = some (.lst xs) ∧ xs.length < sizeLine ∧ 0 ≤ i' ∧ i' < 2 ^ 63 ∧
    QN .non (upd H l' (.lst (xs.take i'.toNat ++ [y'] ++ xs.drop i'.toNat))) := ⟨l, xs, i, y, rfl, rfl, h, hz, h0, h1, k⟩
theorem w_yes {σ2 : L2.St} {A : Hp → Prop} {B : Hp → Prop} (k : A H) : tYes σ2 H fun b H3 => if b = true then A H3 else B H3 := by
  show if true = true then A H else B H
  rw [if_pos rfl]
  exact k
theorem hp_ne {H : Hp} {a b : Addr} {o u : HO} (h : b ≠ a) (k : H b = some u) : upd H a o b = some u := (upd_ne h).trans k
theorem ne_n1 {H : Hp} {a b : Addr} {o : HO} (h' : H b = none) (h : H a = some o) : a ≠ b := ne_of_none h h'
theorem ne_n2 {H : Hp} {a b : Addr} {o : HO} (h' : H b = none) (h : H a = some o) : b ≠ a := (ne_of_none h h').symm
theorem w_bm {Ty : String} {r : V → List V → Hp → VK → Prop} (k : te σ H fun x H1 => tyV K Ty x H1 ∧ t σ H1 fun xs H2 => r x xs H2 Q) : tBM K Ty r te t σ H Q := k
theorem w_tyL {P : Prop} (h : SqL K H p xs) (k : P) : tyV K "list" (.ref p) H ∧ P := ⟨.inl ⟨rfl, _, h⟩, k⟩
theorem w_append (h : H l = some (.lst xs)) (hz : xs.length < sizeLine) (k : Q .non (upd H l (.lst (xs ++ [y])))) : rAppend (.ref l) [y] H Q := ⟨l, xs, y, rfl, rfl, h, hz, k⟩
theorem w_call {sp : Sp} {dvs : List V} {E : XK} (k : t σ H fun vs H1 => sp (vs ++ dvs) H1 Q E) : tCall sp dvs E t σ H Q := k
theorem w_meth {m : Str} {sp : Sp} {dvs : List V} {E : XK} {C : Addr} (k : ta σ H fun x H1 => ∃ a dx fs, x = .ref a ∧ H1 a = some (.ins C dx fs) ∧ fs.lookup m = none ∧ t σ H1 fun vs H2 => sp (x :: (vs ++ dvs)) H2 Q E) : tMeth C m sp dvs E ta t σ H Q := k
theorem w_methAt {m : Str} {C dx : Addr} {fs : List (Str × V)} {P : Prop} (ha : H p = some (.ins C dx fs)) (hl : fs.lookup m = none) (k : P) : ∃ a dx fs, V.ref p = .ref a ∧ H a = some (.ins C dx fs) ∧ fs.lookup m = none ∧ P := ⟨p, dx, fs, rfl, ha, hl, k⟩
theorem w_nget {P : Program} {w : World} (k : ta σ H fun x H1 => tb σ H1 fun y H2 => ∃ a b kvs k v, x = .ref a ∧ y = .ref b ∧ ND P w H2 a kvs ∧ NK H2 k (.ref b) ∧ k.depth ≤ 8 ∧ valV kvs k = some v ∧ Q v H2) : tNGet P w ta tb σ H Q := k
theorem w_nin {P : Program} {w : World} {neg : Bool} (k : ta σ H fun y H1 => tb σ H1 fun x H2 => ∃ a b kvs k, x = .ref a ∧ y = .ref b ∧ ND P w H2 a kvs ∧ NK H2 k (.ref b) ∧ k.depth ≤ 8 ∧ Q (.bl (if neg then !(valV kvs k).isSome else (valV kvs k).isSome)) H2) : tNIn P w neg ta tb σ H Q := k
theorem w_nput {P : Program} {w : World} (k : tc σ H fun v H1 => ta σ H1 fun x H2 => tb σ H2 fun y H3 => ∃ a b kvs k, x = .ref a ∧ y = .ref b ∧ ND P w H3 a kvs ∧ NK H3 k (.ref b) ∧ k.depth ≤ 8 ∧ kvs.length < sizeLine ∧
  ∀ H4, ND P w H4 a (putK kvs k v) → (∀ c, c ≠ a → H4 c = H3 c) → D.nx σ H4) : sNPut P w ta tb tc D σ H := k
theorem w_ite {c : Prop} [Decidable c] {A B : Prop} (h1 : c → A) (h2 : ¬ c → B) : if decide c = true then A else B := by
  by_cases e : c
  · rw [if_pos (decide_eq_true e)]; exact h1 e
  · rw [if_neg (by rw [decide_eq_false e]; exact Bool.false_ne_true)]; exact h2 e
theorem w_iteN {c : Prop} [Decidable c] {A B : Prop} (h1 : ¬ c → A) (h2 : c → B) : if (!decide c) = true then A else B := by
  by_cases e : c
  · rw [if_neg (by rw [decide_eq_true e]; exact Bool.false_ne_true)]; exact h2 e
  · rw [if_pos (by rw [decide_eq_false e]; rfl)]; exact h1 e
end
section
variable {X : Cx}
theorem c_int : CallR X (.type "int") rInt := fun pins s σ H xs us Q I r ⟨i, e, q⟩ => call_int1 pins s σ H xs us Q I r (.inl ⟨i, e, q⟩)
theorem c_abs : CallR X (.builtin "abs") rAbs := fun pins s σ H xs us Q I r h => call_abs pins s σ H xs us Q I r h
theorem c_len : CallR X (.builtin "len") (rLenX X.K) := fun pins s σ H xs us Q I r h => call_len_seq pins s σ H xs us Q I r h
theorem get_list : PGet X (rGetL X.K) := by
  intro pins s σ H o i ov iv Q I ro ri h
  obtain ⟨p, xs, j, v, rfl, rfl, hq, he, q⟩ := h
  cases ro
  obtain ⟨t, rfl⟩ := ri
  obtain ⟨its, r, pl, hz⟩ := I.list hq
  obtain ⟨w, ew, rw'⟩ := r.get he
  have hl := r.length
  have hn := line63
  have hj : j < xs.length := (List.getElem?_eq_some_iff.mp he).1
  exact wpAny_getItem_list pl.isList (by omega) (by omega) (by rw [Int.toNat_natCast]; simpa using ew) ⟨v, H, I, rw', q⟩
end
end Rs

set_option Elab.async false
set_option linter.all false
set_option maxRecDepth 100000
set_option maxHeartbeats 4000000
/-! the law's draws: _law_take, _law_some -/
namespace Rs
open PySem L2 PySem.Spec PyProof.Rows

def top (i : Nat) : Stmt := PySem.Challenge.pw_runshown_k22_whole_what_is_built_of_seen.main.body.getD i (.Pass ⟨0, 0, 0, 0⟩)
abbrev sBag : Stmt := top 14
abbrev sTake : Stmt := top 15
abbrev sSome : Stmt := top 16

local macro_rules | `(tactic| walk_at "rs ne") => `(tactic| first | assumption | (apply Ne.symm; assumption) | (apply ne_n1; assumption; walk_at "rs hp") | (apply ne_n2; assumption; walk_at "rs hp"))
local macro_rules | `(tactic| walk_at "rs hp") => `(tactic| first | assumption | exact upd_same | (apply hp_ne; (walk_at "rs ne"); (walk_at "rs hp")))
local macro_rules | `(tactic| walk_at "rs sq") => `(tactic| first | assumption | (apply SqL.of; walk_at "rs hp") | (apply SqT.of; walk_at "rs hp"))
local macro_rules | `(tactic| walk_at "rs sz") => `(tactic| first | decide | (rw [sizeLine_eq]; simp; done) | (rw [sizeLine_eq]; simp; omega) | (rw [sizeLine_eq]; omega))
local macro_rules | `(tactic| walk_at "rs ar") => `(tactic| first | assumption | (show (0 : Int) < _; first | assumption | decide | omega) | exact Or.inr ⟨by decide, by decide⟩ | exact Or.inl ⟨by decide, by decide⟩ | exact Or.inl ⟨by omega, by omega⟩ | exact Or.inr ⟨by omega, by omega⟩ | exact ⟨by decide, by decide, by decide⟩ | exact ⟨by decide, by decide⟩ | exact ⟨by omega, by omega⟩)
local macro_rules | `(tactic| walk_at "rs r1") => `(tactic| with_reducible (first | refine w_var rfl ?_ | refine w_c ?_ | refine w_op ?_ | refine w_un ?_ | refine w_test ?_ | refine w_B ?_ | refine w_bool ?_ | refine w_not ?_ | refine w_cb ?_ | refine w_nil ?_ | refine w_cons ?_ | refine w_asg ?_ | refine w_name ?_ | refine w_seq ?_ | refine w_ret ?_ | refine w_drop ?_ | refine w_next ?_ | refine w_ifS ?_ | refine w_I0 ?_ | refine w_eqI ?_ | refine w_neI ?_ | refine w_int ?_ | refine w_abs ?_ | refine w_sl ?_ | refine w_part ?_ | refine w_intO ?_ | refine w_nopart ?_ | refine w_gsub ?_ | refine w_augS ?_ | refine w_ip ?_ | refine w_lst ?_ | refine w_tup ?_ | refine w_if ?_ | refine w_and ?_ | refine w_or ?_ | refine w_tfld ?_ | refine w_forL ?_ | refine w_forT ?_ | refine w_forR1 ?_ | refine w_forR2 ?_ | refine w_forE ?_ | refine w_lcL ?_ | refine w_lcR1 ?_ | refine w_bm ?_ | refine w_call ?_ | refine w_meth ?_ | refine w_nget ?_ | refine w_nin ?_ | refine w_nput ?_ | refine w_eqS ?_ | refine w_neS ?_))
local macro_rules | `(tactic| walk_at "rs r2") => `(tactic| first | (walk_at "rs r1") | ((with_reducible refine' w_ixL ?h1 ?h2 ?h3); (case h1 => walk_at "rs sq"); (case h2 => first | rfl | exact atI_nat (j := 0) rfl | exact atI_nat (j := 1) rfl | exact atI_nat (j := 2) rfl)) | ((with_reducible refine' w_ixT ?h1 ?h2 ?h3); (case h1 => walk_at "rs sq"); (case h2 => first | rfl | exact atI_nat (j := 0) rfl | exact atI_nat (j := 1) rfl | exact atI_nat (j := 2) rfl)) | ((with_reducible refine' w_cutL ?h1 ?_); (case h1 => walk_at "rs sq"); intro q hq) | ((with_reducible refine' w_cat ?h1 ?h2 ?h3 ?_); (case h1 => walk_at "rs hp"); (case h2 => walk_at "rs hp"); (case h3 => walk_at "rs sz"); intro q hq) | ((with_reducible refine' w_small ?h1 ?_); (case h1 => exact Nat.le_of_ble_eq_true rfl); intro q hq) | ((with_reducible refine' w_setL ?h1 ?h2 ?_); (case h1 => walk_at "rs hp"); (case h2 => rfl)) | ((with_reducible refine' w_getL ?h0 ?h1 ?h2 ?_); (case h0 => rfl); (case h1 => walk_at "rs sq"); (case h2 => rfl)) | ((with_reducible refine' w_lenL ?h1 ?_); (case h1 => walk_at "rs sq")) | ((with_reducible refine' w_lenT ?h1 ?_); (case h1 => walk_at "rs sq")) | ((with_reducible refine' w_fld ?h1 ?h2 ?h3 ?h4 ?_); (case h1 => assumption); (case h2 => assumption); (case h3 => walk_at "rs hp"); (case h4 => assumption)) | ((with_reducible refine' w_methAt ?h1 ?h2 ?_); (case h1 => walk_at "rs hp"); (case h2 => assumption)) | ((with_reducible refine' w_tyL ?h1 ?_); (case h1 => walk_at "rs sq")) | ((with_reducible refine' w_append ?h1 ?h2 ?_); (case h1 => walk_at "rs hp"); (case h2 => assumption)) | ((with_reducible refine' w_I ?h1 ?_); (case h1 => walk_at "rs ar")))
local macro_rules | `(tactic| walk_at "rs rd") => `(tactic| repeat (walk_at "rs r2"))

/-- the bag of draws: at b, its cells at c -/
def Bag (H : Hp) (b c : Addr) : Prop := ∃ (cur seed ix : Int) (ns : List Int), H b = some (.lst [.int cur, .int seed, .int ix, .ref c]) ∧ 0 ≤ cur ∧ 0 ≤ seed ∧ H c = some (.lst (ns.map V.int)) ∧ (∀ n ∈ ns, 0 ≤ n) ∧ ns.length ≤ 100
theorem Bag.ne {H : Hp} {b c : Addr} (h : Bag H b c) : b ≠ c := by
  obtain ⟨cur, seed, ix, ns, h1, _, _, h2, _⟩ := h
  intro e
  rw [e, h2] at h1
  have h1' := HO.lst.inj (Option.some.inj h1)
  match ns, h1' with
  | [], z => cases z
  | [_], z => cases z
  | [_, _], z => cases z
  | [_, _, _], z => cases z
  | _ :: _ :: _ :: _ :: _, z =>
    injection z with _ z
    injection z with _ z
    injection z with _ z
    injection z with z _
    cases z
theorem Bag.frame {S : List Addr} {H H' : Hp} {b c : Addr} (h : Bag H b c) (f : Fm S H H') (hb : b ∉ S) (hc : c ∉ S) : Bag H' b c := by
  obtain ⟨cur, seed, ix, ns, h1, p1, p2, h2, p3, p4⟩ := h
  exact ⟨cur, seed, ix, ns, f _ _ h1 hb, p1, p2, f _ _ h2 hc, p3, p4⟩
def spTake : Sp := fun vs H Q _ => ∃ (b c : Addr) (many : Int), vs = [.ref b, .int many] ∧ 0 < many ∧ many < 1000000 ∧ Bag H b c ∧ ∀ (v : Int) (H' : Hp), 0 ≤ v → v < many → Bag H' b c → Fm [b] H H' → Q (.int v) H'
def spSome (K : PySem.W.Frag) : Sp := fun vs H Q _ => ∃ (b c p : Addr) (xs : List V), vs = [.ref b, .ref p] ∧ xs ≠ [] ∧ xs.length < 1000000 ∧ p ≠ b ∧ (SqL K H p xs ∨ SqT K H p xs) ∧ Bag H b c ∧
  ∀ (v : V) (H' : Hp), v ∈ xs → Bag H' b c → Fm [b] H H' → Q v H'
structure TxtB (K : PySem.W.Frag) (mg : Str → Option Value) : Prop where
  int : mg "int" = none
  len : mg "len" = none

theorem cutV_len (xs : List V) (lo hi : Option Int) : (cutV xs lo hi).length ≤ xs.length := by
  unfold cutV
  rw [List.length_take, List.length_drop]
  omega
theorem cutV_mem {xs : List V} {lo hi : Option Int} {x : V} (h : x ∈ cutV xs lo hi) : x ∈ xs := List.mem_of_mem_drop (List.mem_of_mem_take h)
/-- the first cell left, or 0 -/
theorem first_cell {ns : List Int} (p3 : ∀ n ∈ ns, 0 ≤ n) (ix : Int) : ∃ cell : Int, 0 ≤ cell ∧ atI (cutV (ns.map V.int) (some ix) none ++ [V.int 0]) 0 = some (.int cell) := by
  cases e : cutV (ns.map V.int) (some ix) none with
  | nil => exact ⟨0, by decide, rfl⟩
  | cons y ys =>
    have hm : y ∈ ns.map V.int := cutV_mem (lo := some ix) (hi := none) (by rw [e]; exact List.mem_cons_self)
    obtain ⟨n, hn, rfl⟩ := List.mem_map.mp hm
    refine ⟨n, p3 n hn, ?_⟩
    exact atI_nat (j := 0) rfl
section
variable {P : Program} {w : World} {K : PySem.W.Frag} {mg : Str → Option Value} {base : Heap}
theorem scTake : FnScope ["bag", "many", "cell", "stirred", "value", "begin", "second"] ["bag", "many"] (defScope sTake) := ⟨rfl, rfl, rfl, by decide +kernel, rfl, by decide +kernel, by decide +kernel⟩
theorem ok_take {f : Addr} {fd : FuncData} (F : Fun K "_law_take" "_law_take" sTake f fd) (T : TxtB K mg) : FnOk P w K mg base CX0 1 f fd ["bag", "many"] spTake := by
  refine F.ok scTake (fun vs H Q E h => ?_) (fun cdv A outer s H vs Q E hr h => ?_)
  · obtain ⟨b, c, many, rfl, _⟩ := h
    rfl
  · obtain ⟨b, c, many, rfl, hm, hm2, B, k⟩ := h
    have nd := scTake.nd
    refine ⟨_, Evl.pss_cut (ps_if (pt_cmpR op_eq (pe_ix ix_list (pv 0) pe_int (fun _ _ => rfl)) pe_int (nomark _))
        (pss_cons (ps_set (i := 2) nd rfl (Or.inl rfl) (pe_ix ix_list (pe_op op_cat (pe_slice sl_list (pe_ix ix_list (pv 0) pe_int (fun _ _ => rfl)) (po_some (pe_ix ix_list (pv 0) pe_int (fun _ _ => rfl))) po_none) (pe_lst (pa_cons pe_int pa_nil))) pe_int (fun _ _ => rfl)))
        (pss_cons (ps_augS (pv 0) pe_int get_list pe_int ip_add set_list)
        (pss_cons (ps_if (pt_cmpR op_ge (pv 2) (pe_op op_pow pe_int pe_int) (nomark _)) (pss_one (ps_asg (pv 2) (pg_sub (pv 0) pe_int set_list))) pss_nil)
        (pss_cons (ps_set (i := 3) nd rfl (Or.inl rfl) (pe_op op_add (pe_op op_add (pe_op op_mul (pe_ix ix_list (pv 0) pe_int (fun _ _ => rfl)) pe_int) (pe_op op_mod (pe_callTy c_int (by rfl) T.int (by decide +kernel) (pa_cons (pv 2) pa_nil)) pe_int)) (pe_op op_mul pe_int (pe_ix ix_list (pv 0) pe_int (fun _ _ => rfl)))))
        (pss_one (ps_asg (pe_op op_mod (pe_callTy c_int (by rfl) T.int (by decide +kernel) (pa_cons (pv 3) pa_nil)) pe_int) (pg_sub (pv 0) pe_int set_list))))))) pss_nil)
      (pss_cons (ps_if (pt_cmpR op_gt (pe_ix ix_list (pv 0) pe_int (fun _ _ => rfl)) pe_int (nomark _))
        (pss_cons (ps_set (i := 4) nd rfl (Or.inl rfl) (pe_op op_mod (pe_callTy c_int (by rfl) T.int (by decide +kernel) (pa_cons (pe_ix ix_list (pv 0) pe_int (fun _ _ => rfl)) pa_nil)) (pv 1)))
        (pss_cons (ps_asg (pe_op op_fdiv (pe_callTy c_int (by rfl) T.int (by decide +kernel) (pa_cons (pe_ix ix_list (pv 0) pe_int (fun _ _ => rfl)) pa_nil)) (pv 1)) (pg_sub (pv 0) pe_int set_list))
        (pss_one (ps_ret (pv 4))))) pss_nil)
      (pss_cons (ps_set (i := 5) nd rfl (Or.inl rfl) (pe_op op_mod (pe_callTy c_int (by rfl) T.int (by decide +kernel) (pa_cons (pe_op op_mul (pe_op op_add (pe_ix ix_list (pv 0) pe_int (fun _ _ => rfl)) pe_int) pe_int) pa_nil)) pe_int))
      (pss_cons (ps_set (i := 6) nd rfl (Or.inl rfl) (pe_op op_mod (pe_callTy c_int (by rfl) T.int (by decide +kernel) (pa_cons (pe_op op_mul (pe_op op_mod (pe_callTy c_int (by rfl) T.int (by decide +kernel) (pa_cons (pe_op op_mul (pv 5) (pv 5)) pa_nil)) pe_int) pe_int) pa_nil)) pe_int))
      (pss_one (ps_ret (pe_op op_mod (pe_callTy c_int (by rfl) T.int (by decide +kernel) (pa_cons (pe_op op_fdiv (pv 6) pe_int) pa_nil)) (pv 1))))))), ?_⟩
    obtain ⟨cur, seed, ix, ns, h1, p1, p2, h2, p3, p4⟩ := id B
    have hbc : b ≠ c := B.ne
    have hcb : c ≠ b := Ne.symm hbc
    obtain ⟨cell, c0, hcell⟩ := first_cell p3 ix
    have hz : (cutV (ns.map V.int) (some ix) none).length + [V.int 0].length ≤ sizeLine := by
      have q := cutV_len (ns.map V.int) (some ix) none
      rw [List.length_map] at q
      rw [sizeLine_eq]
      simp
      omega
    refine w_cut (M := fun σ' H' => ∃ x2 x3, σ' = [some (.ref b), some (.int many), x2, x3, none, none, none] ∧ Bag H' b c ∧ Fm [b] H H') ?_ ?_
    · walk_at "rs rd"
      refine w_ite (fun e0 => ?_) (fun e0 => ?_)
      · walk_at "rs rd"
        refine w_cat (by walk_at "rs hp") (by walk_at "rs hp") hz fun q hq => ?_
        walk_at "rs rd"
        refine w_ixL (by walk_at "rs sq") hcell ?_
        walk_at "rs rd"
        refine w_ite (fun e1 => ?_) (fun e1 => ?_)
        · walk_at "rs rd"
          refine ⟨_, _, rfl, ⟨cell, _, _, ns, by walk_at "rs hp", c0, ?_, by walk_at "rs hp", p3, p4⟩, ?_⟩
          · exact Int.emod_nonneg _ (by decide)
          · exact ((((((Fm.refl _ _).thenNew (by assumption)).thenNew (by assumption)).thenNew (by assumption)).thenPut List.mem_cons_self).thenPut List.mem_cons_self).thenPut List.mem_cons_self
        · walk_at "rs rd"
          refine ⟨_, _, rfl, ⟨cur, _, _, ns, by walk_at "rs hp", p1, ?_, by walk_at "rs hp", p3, p4⟩, ?_⟩
          · exact Int.emod_nonneg _ (by decide)
          · exact (((((Fm.refl _ _).thenNew (by assumption)).thenNew (by assumption)).thenNew (by assumption)).thenPut List.mem_cons_self).thenPut List.mem_cons_self
      · walk_at "rs rd"
        exact ⟨none, none, rfl, B, Fm.refl _ _⟩
    · rintro σ' H' ⟨x2, x3, rfl, B', f'⟩
      clear h1 h2
      obtain ⟨cur', seed', ix', ns', h1, p1', p2', h2, p3', p4'⟩ := id B'
      walk_at "rs rd"
      refine w_ite (fun e0 => ?_) (fun e0 => ?_)
      · walk_at "rs rd"
        refine k _ _ (Int.emod_nonneg _ (by omega)) (Int.emod_lt_of_pos _ hm) ⟨_, seed', ix', ns', by walk_at "rs hp", Int.ediv_nonneg p1' (by omega), p2', by walk_at "rs hp", p3', p4'⟩ (f'.thenPut List.mem_cons_self)
      · walk_at "rs rd"
        refine k _ _ (Int.emod_nonneg _ (by omega)) (Int.emod_lt_of_pos _ hm) B' f'
end
end Rs

set_option Elab.async false
set_option linter.all false
set_option maxRecDepth 100000
set_option maxHeartbeats 4000000
/-! TooLarge(what, limit): its __init__ asks super().__init__(what, limit), then stores both -/
namespace Rs
open PySem L2 PySem.Spec PyProof.Rows PySem.W PySem.HandSPX PySem.Calls
def topX (i : Nat) : Stmt := PySem.Challenge.pw_runshown_k22_whole_what_is_built_of_seen.main.body.getD i (.Pass ⟨0, 0, 0, 0⟩)
abbrev sTL : Stmt := inClass (topX 4) 0
/-- what the written part says of TooLarge, at C, and of its __init__, at fI -/
structure TlTxt (prog : Program) (K : Frag) (mg : Str → Option Value) (C fI : Addr) : Prop where
  gC : mg "TooLarge" = some (.ref C)
  mS : mg "super" = none
  tp : (prog.main.scope.names.lookup ("super" : Str)).isSome = false
  cls : ∃ nm q N bs bm sn sub ab col dd k0 k1 k2 k3 k5, K.lookup C = some (excClassObj nm q C N bs bm true sn sub ab col dd k0 k1 k2 k3 k5 "ValueError.__new__") ∧ refsVE bm = true ∧ alongIn K "__init__" bm = some (some (.builtin "ValueError.__init__"))
  sa : findIn K (.ref C) "__setattr__" = some (some (.builtin "object.__setattr__"))
  ga : findIn K (.ref C) "__getattribute__" = some (some (.builtin "BaseException.__getattribute__"))
  gg : findIn K (.ref C) "__getattr__" = some none
  noW : findIn K (.ref C) "what" = some none
  noL : findIn K (.ref C) "limit" = some none
  iC : findIn K (.ref C) "__init__" = some (some (.ref fI))
  tC : typeIn K (.ref fI) = some (.type "function")
  kC : keepIn K (.ref C) = true
  exC : subIn K (.ref C) (.type "BaseException") = some true
  veC : subIn K (.ref C) (.type "ValueError") = some true
  tyC : typeIn K (.ref C) = some (.type "type")
  hdC : hasDictIn K C = true
  te : exmOne K (.ref C) (.ref C) = some true
  me : mroIn K C (.ref C) = some true
  st : nsIn K cStatics "thirdparty.any" = some none
  fn : ∃ (oc : Value) (od : Option Addr) (doc pm : Value) (an : Option Addr) (cda cc : Addr) (ct : Value) (osl : Array (Option Value)) (ccl cl : Value) (cdd cld : Option Addr) (ccs csl : Array (Option Value)) (vs : Array Value) (file : Str) (tf : Tok),
    K.lookup fI = some ⟨oc, od, .func (ksFn "__init__" "TooLarge.__init__" (defArgs sTL) (defBody sTL) (defScope sTL) .none .none doc pm an (.ref cda) ct cc), osl⟩ ∧ codeIn K (.ref cda) "TooLarge.__init__" = true ∧
    K.lookup cda = some ⟨ccl, cdd, .fields vs, ccs⟩ ∧ vs[2]? = some (.str file tf) ∧ ((prog.main.file : Str) == file) = true ∧ K.lookup cc = some ⟨cl, cld, .cell (some (.ref C)), csl⟩
theorem two_size (v u : Value) : [v, u].length ≤ sizeLine := by
  rw [sizeLine_eq]
  exact (by decide : 2 ≤ 16777216)
/-- what __init__ leaves of a fresh exception at x -/
structure TlEnd (h h' : Heap) (x C dx t1 : Addr) (v u : Value) : Prop where
  keep : ∀ b o, b ≠ x → h.get? b = some o → h'.get? b = some o
  obj : h'.get? x = some { cls := .ref C, dict := some dx, data := .fields #[.ref t1, .none, .none, .none, .bool false, .none] }
  dbig : h.objs.size ≤ dx
  dne : dx ≠ x
  ns : h'.Ns1 dx (fun y => if y = "limit" then some u else if y = "what" then some v else none)
section
variable {prog : Program} {w : World} {A : Around} {E : Value → Shared → Prop} {R : Result → Shared → Prop} {K : Frag} {mg : Str → Option Value} {C fI : Addr}
theorem call_mw {nm q : Str} {N : Addr} {bs bm : List Value} {sn : List Str} {sub : List Value} {ab : Bool} {col : Option Bool} {dd : Option Addr} {k0 k1 k2 k3 k5 : Option Value} {h : Heap} {g : Array GenState} {d : Drawn} {t : Nat} {os : OsState}
    {e uu t0 : Addr} {rest : List Value} {Q : Value → Shared → Prop} (hT : ∀ Y : String, bm.contains (.type Y) = veTail.contains (.type Y))
    (hC : h.get? C = some (excClassObj nm q C N bs bm true sn sub ab col dd k0 k1 k2 k3 k5 "ValueError.__new__")) (he : h.get? e = some (excO C t0)) (hu : h.get? uu = some (kxs_mw "ValueError.__init__" e)) (hz : rest.length ≤ sizeLine)
    (hq : ∀ h' t1, (∀ b o, b ≠ e → h.get? b = some o → h'.get? b = some o) → h'.get? e = some (excO C t1) → Q .none ⟨h', g, d, t, os⟩) :
    wpAny (model prog w) A (call (.ref uu) rest) Q E ⟨h, g, d, t, os⟩ := by
  refine wpAny_call (codeAny_of_tree ?_)
  show wpAny _ A.in1 (callAny (.ref uu) ⟨rest, []⟩) _ _ _
  simp only [callAny]
  refine wpAny_bind (wpAny_load hu ?_)
  have e1 : (Value.type "method-wrapper" == Value.type "method" || Value.type "method-wrapper" == Value.type "builtin_function_or_method" || Value.type "method-wrapper" == Value.type "method-wrapper") = true := by decide
  simp only [kxs_mw, e1, if_true]
  refine KFB.if_so (by decide) ?_
  refine wpAny_bind (check_bound_init F.excBase_ValueError.toExcCallFacts hC he rfl ?_)
  refine wpAny_bind (wpAny_pure (wpAny_pure ?_))
  refine ⟨plainId_quiet F.excBase_ValueError.init.plain _, codeAny_builtin F.excBase_ValueError.initEntry ?_⟩
  exact exc_init_tree (cls := .ref C) (t0 := t0) (dv := none) (c2 := .none) (c3 := .none) (b4 := .bool false) he hz fun h' k e' _ => hq h' _ k e'
theorem ldF {M : Model} {s : Shared} {env : Env} {m : Str → Option Value} {x : Str} {pos : Pos} {v : Value} {Q : Value → Shared → Prop} (hn : s.heap.Ns env.locals m) (hv : m x = some v) (h : Q v s)
    (hk : env.scope.kind = .function) (hl : env.kindOf x = some .local) (hd : (x == ("__debug__" : Str)) = false) : wpAny M A (eval (.Name x pos) env) Q E s := wpAny_Name (wpAny_loadName_local hk hl hn hv h) hd
theorem tl_init {s : Shared} (T : TlTxt prog K mg C fI) {x t0 : Addr} {v u : Value} (X : K.In s.heap) (hlim : s.heap.NoLimit) (G : s.heap.Ns mainGlobals mg) (B : ∃ mb, s.heap.Ns builtinsNs mb ∧ ∀ y : Str, y ≠ "__name__" → mb y = bootBuiltins y)
    (hx : s.heap.get? x = some (excO C t0)) (hnx : K.lookup x = none) (hroom : A.depth < recursionLimit)
    (hq : ∀ h' tk dx t1, TlEnd s.heap h' x C dx t1 v u → R (.ok (.ret .none)) { s with heap := h', toks := tk }) :
    codeAny (model prog w) A (.call (.ref fI) ⟨[.ref x, v, u], []⟩) R s := by
  obtain ⟨oc, od, doc, pm, an, cda, cc, ct, osl, ccl, cl, cdd, cld, ccs, csl, vs, file, tf, ho, hcd, hcda, hvs, hfile, hcc⟩ := T.fn
  obtain ⟨nm, q, N, bs, bm, sn, sub, ab, col, dd, k0, k1, k2, k3, k5, hC, hbm, hal⟩ := T.cls
  obtain ⟨mb, hmb, hbb⟩ := B
  have hcl : clsIn K C = some { name := nm, bases := bs, mro := .ref C :: bm, ns := N, qualname := q, hasDict := true, slotNames := sn, subclasses := sub, abstract := ab, collection := col, hasDel := false } := by unfold clsIn; rw [hC] <;> rfl
  have hcel : ∀ y ∈ (defScope sTL).names, y.2 ≠ .cell := by decide +kernel
  have hloc : ∀ n ∈ (["self", "what", "limit"] : List Str), (defScope sTL).names.lookup n = some .local := by decide +kernel
  have hlo : ∀ y ∈ ([("self", .ref x), ("what", v), ("limit", u)] : List (Str × Value)), (defScope sTL).names.lookup y.1 = some .local := fun y hy => by
    rcases List.mem_cons.mp hy with e | hy
    · rw [e]; exact hloc _ (by simp)
    rcases List.mem_cons.mp hy with e | hy
    · rw [e]; exact hloc _ (by simp)
    rcases List.mem_cons.mp hy with e | hy
    · rw [e]; exact hloc _ (by simp)
    · cases hy
  refine ks_codeAny_call_defAt (binds := [("self", .ref x), ("what", v), ("limit", u)]) hroom (X _ _ ho) rfl hlim (codeRec_of X hcd) rfl (BindsTo.of_eq rfl) hcel hlo (fun h₁ hn k => ?_) rfl rfl rfl
  have hxL : s.heap.objs.size ≠ x := Nat.ne_of_gt (Heap.lt_size hx)
  have X₁ : K.In h₁ := X.keeps k
  have hx₁ := k _ _ hx
  have hxC : x ≠ C := fun z => by
    rw [z, hC] at hnx
    cases hnx
  have I : InstAt h₁ x (excO C t0) C none := ⟨hx₁, rfl, rfl, trivial⟩
  refine ks_wpAt_execs_cons (ks_wpAt_Expr_any (ks_wpAt_MethodCall ?_))
  have kS : (defScope sTL).names.lookup ("super" : Str) = some .globalImplicit := by decide +kernel
  have kK : (defScope sTL).names.lookup ("__class__" : Str) = some .free := by decide +kernel
  have k1' : (defScope sTL).names.lookup ("self" : Str) = some .local := hloc _ (by simp)
  have k2' : (defScope sTL).names.lookup ("what" : Str) = some .local := hloc _ (by simp)
  have k3' : (defScope sTL).names.lookup ("limit" : Str) = some .local := hloc _ (by simp)
  have vS : (fun y => ([("self", Value.ref x), ("what", v), ("limit", u)] : List (Str × Value)).reverse.lookup y) "self" = some (Value.ref x) := by
    show List.lookup ("self" : Str) [("limit", u), ("what", v), ("self", Value.ref x)] = _
    simp [List.lookup, show (("self" : Str) == "limit") = false by decide +kernel, show (("self" : Str) == "what") = false by decide +kernel]
  have vW : (fun y => ([("self", Value.ref x), ("what", v), ("limit", u)] : List (Str × Value)).reverse.lookup y) "what" = some v := by
    show List.lookup ("what" : Str) [("limit", u), ("what", v), ("self", Value.ref x)] = _
    simp [List.lookup, show (("what" : Str) == "limit") = false by decide +kernel]
  have vL : (fun y => ([("self", Value.ref x), ("what", v), ("limit", u)] : List (Str × Value)).reverse.lookup y) "limit" = some u := by
    show List.lookup ("limit" : Str) [("limit", u), ("what", v), ("self", Value.ref x)] = _
    simp [List.lookup]
  generalize (fun y => ([("self", Value.ref x), ("what", v), ("limit", u)] : List (Str × Value)).reverse.lookup y) = mm at hn vS vW vL
  refine ks_wpAt_super_base (ar := { arg := "self", annotation := none, pos := ⟨13, 17, 13, 21⟩ }) kS kK (by decide +kernel) rfl (X₁ _ _ ho) rfl rfl rfl (X₁ _ _ hcda) rfl hvs hfile T.tp ?_
  refine ks_loadName_global rfl kS (loadGlobal_builtin (G.keeps k) T.mS (hmb.keeps k) ((hbb _ (by decide +kernel)).trans (by first | rfl | kernel_rfl)) ⟨rfl, ?_⟩)
  refine wpAny_loadName_free rfl kK rfl ⟨_, X₁ _ _ hcc, rfl⟩ ?_
  refine wpAny_loadName_local rfl k1' hn vS ?_
  refine ks_wpAny_isType_cls (X₁ _ _ hC) rfl ⟨rfl, ?_⟩
  refine ks_wpAny_call_super (X₁ _ _ hC) rfl hx₁ rfl (fun c => nofun) (looks_mroIn X₁ T.me) (fun h₂ e₂ k₂ => ?_)
  have X₂ : K.In h₂ := X₁.keeps k₂
  have hx₂ := k₂ _ _ hx₁
  have I₂ : InstAt h₂ x (excO C t0) C none := ⟨hx₂, rfl, rfl, trivial⟩
  have hI : Looks (model prog w) h₂ (isInstance (.ref x) (.type "ValueError")) true := I₂.type.andThen (looks_subIn X₂ T.veC)
  refine kxs_getMethod kxs_ValueError e₂ (looks_opaque X₂ T.st) (l₀ := .ref C :: bm) (fun A Q E s k q => wpAny_bind ((looks_clsIn X₂ hcl) A _ E s k (wpAny_pure q))) rfl X₂ (by
    rw [PySem.ESX.drop_own]
    exact hal) hI hxC (by decide +kernel) ?_
  have k₃ : ∀ b o, h₂.get? b = some o → (h₂.push (kxs_mw "ValueError.__init__" x)).get? b = some o := fun b o e => Heap.get?_push_of_some _ e
  have hu₃ : (h₂.push (kxs_mw "ValueError.__init__" x)).get? h₂.objs.size = some (kxs_mw "ValueError.__init__" x) := Heap.get?_push_at rfl rfl
  have hn₃ := (hn.keeps k₂).keeps k₃
  refine kxs_callWith (i := "ValueError.__init__") (x := x) (by rfl) (evalArgs_plain ?_)
  refine Calls.spliced_cons (ldF hn₃ vW ?_ rfl k2' (by decide +kernel))
  refine Calls.spliced_cons (ldF hn₃ vL ?_ rfl k3' (by decide +kernel))
  refine Calls.spliced_nil ⟨hu₃, ?_⟩
  have hC₃ := k₃ _ _ (X₂ _ _ hC)
  refine call_mw (fun Y => refsVE_contains Y bm hbm) hC₃ (k₃ _ _ hx₂) hu₃ (two_size v u) fun h₄ t1 k₄ hx₄ => ?_
  have kk : ∀ b o, b ≠ x → h₁.get? b = some o → h₄.get? b = some o := fun b o hb e => k₄ b o hb (k₃ _ _ (k₂ _ _ e))
  have keptX : ∀ {h' : Heap}, (∀ b o, b ≠ x → h₁.get? b = some o → h'.get? b = some o) → K.In h' := fun {h'} kx b o e => kx b o (fun z => by rw [z, hnx] at e; cases e) (X₁ b o e)
  have X₄ : K.In h₄ := keptX kk
  have hLx : s.heap.objs.size ≠ x := hxL
  have hn₄ : h₄.Ns s.heap.objs.size mm := by
    obtain ⟨oL, es, ep, hL, r⟩ := hn
    exact ⟨oL, es, ep, kk _ _ hLx hL, r⟩
  -- self.what = what
  refine ks_wpAt_execs_cons (wpAt_of_wpAny (plainObj_wpAny_Assign_Attribute ?_))
  refine ldF hn₄ vW (ldF hn₄ vS ?_ rfl k1' (by decide +kernel)) rfl k2' (by decide +kernel)
  refine set_plain X₄ (ox := excO C t1) (od := none) ⟨hx₄, rfl, rfl, trivial⟩ T.sa ?_
  refine HandSPX.exc_osa X₄ hx₄ hcl (show refsVE (.ref C :: bm) = true from hbm) rfl T.noW (fun h₅ tk₅ dx k₅ dn dne hx₅ hn₅ => ?_)
  have kk5 : ∀ b o, b ≠ x → h₁.get? b = some o → h₅.get? b = some o := fun b o hb e => k₅ b o hb (kk b o hb e)
  have X₅ : K.In h₅ := keptX kk5
  have hL₄ : s.heap.objs.size < h₄.objs.size := hn₄.lt
  have dn' : h₄.objs.size ≤ dx := dn
  have hn₅' : h₅.Ns s.heap.objs.size mm := by
    obtain ⟨oL, es, ep, hL, r⟩ := hn₄
    exact ⟨oL, es, ep, k₅ _ _ hLx hL, r⟩
  -- self.limit = limit
  refine ks_wpAt_execs_cons (wpAt_of_wpAny (plainObj_wpAny_Assign_Attribute ?_))
  refine ldF hn₅' vL (ldF hn₅' vS ?_ rfl k1' (by decide +kernel)) rfl k3' (by decide +kernel)
  obtain ⟨oD, _, _, hoD, _⟩ := id hn₅
  refine set_plain X₅ (ox := { cls := .ref C, dict := some dx, data := .fields #[.ref t1, .none, .none, .none, .bool false, .none] }) (od := some oD) ⟨hx₅, rfl, rfl, hoD⟩ T.sa ?_
  have hw5 : Within (fun y => if y = "what" then some v else none) ["what"] := fun y hy => by
    by_cases e : y = "what"
    · rw [e]; exact List.mem_singleton.mpr rfl
    · exact absurd (if_neg e) hy
  refine OEX.osa_old X₅ hx₅ hn₅ hw5 (by decide) hcl (show refsVE (.ref C :: bm) = true from hbm) rfl T.noL (fun h₆ tk₆ k₆ hn₆ => ?_)
  have kk6 : ∀ b o, b ≠ x → s.heap.get? b = some o → h₆.get? b = some o := fun b o hb e => k₆ b o (fun z => by
    have q : b < s.heap.objs.size := Heap.lt_size e
    have z' : b = dx := z
    rw [z'] at q
    exact Nat.lt_irrefl _ (Nat.lt_of_lt_of_le q (Nat.le_trans (Nat.le_of_lt hL₄) dn'))) (kk5 b o hb (k b o e))
  refine wpAt_of_wpAny (wpAny_execs_nil (hq h₆ _ dx t1 ⟨kk6, k₆ _ _ (Ne.symm dne) hx₅, Nat.le_trans (Nat.le_of_lt hL₄) dn', dne, hn₆⟩))
/-- a made TooLarge -/
structure TlMade (h h' : Heap) (e C d : Addr) (v u : Value) : Prop where
  keep : ∀ b o, h.get? b = some o → h'.get? b = some o
  new : h.objs.size ≤ e
  obj : ∃ oe vs, h'.get? e = some oe ∧ oe.cls = .ref C ∧ oe.dict = some d ∧ oe.data = .fields vs ∧ vs[1]? = some .none
  dbig : h.objs.size ≤ d
  dne : d ≠ e
  ns : h'.Ns1 d (fun y => if y = "limit" then some u else if y = "what" then some v else none)
theorem tl_made {s : Shared} (T : TlTxt prog K mg C fI) {v u : Value} (X : K.In s.heap) (hlim : s.heap.NoLimit) (G : s.heap.Ns mainGlobals mg) (B : ∃ mb, s.heap.Ns builtinsNs mb ∧ ∀ y : Str, y ≠ "__name__" → mb y = bootBuiltins y)
    (hroom : A.depth + 1 < recursionLimit) (hq : ∀ h' tk e d, TlMade s.heap h' e C d v u → R (.ok (.ret (.ref e))) { s with heap := h', toks := tk }) :
    codeAny (model prog w) A (.call (.ref C) ⟨[v, u], []⟩) R s := by
  obtain ⟨nm, q, N, bs, bm, sn, sub, ab, col, dd, k0, k1, k2, k3, k5, hC, hbm, hal⟩ := T.cls
  obtain ⟨hp, g, dr, tk, os⟩ := s
  have k : ∀ b o, hp.get? b = some o → ((hp.push (kdv_tup [v, u])).push (excO C hp.objs.size)).get? b = some o := fun b o e => Heap.get?_push_of_some _ (Heap.get?_push_of_some _ e)
  have hget : ((hp.push (kdv_tup [v, u])).push (excO C hp.objs.size)).get? (hp.objs.size + 1) = some (excO C hp.objs.size) := by heap_get
  have hnx : K.lookup (hp.objs.size + 1) = none := by
    cases e : K.lookup (hp.objs.size + 1) with
    | none => rfl
    | some o => exact absurd (Nat.lt_of_succ_lt (Heap.lt_size (show hp.get? (hp.objs.size + 1) = some o from X _ _ e))) (Nat.lt_irrefl _)
  obtain ⟨mb, hmb, hbb⟩ := B
  refine call_own F.excBase_ValueError (fun X => refsVE_contains X bm hbm) (X _ _ hC) (looks_findIn X T.iC) (fun self => bind_fn X self T.tC) (two_size v u) ?_
  refine tl_init (s := ⟨(hp.push (kdv_tup [v, u])).push (excO C hp.objs.size), g, dr, tk, os⟩) T (X.keeps k) (hlim.keeps k) (G.keeps k) ⟨mb, hmb.keeps k, hbb⟩ hget hnx ?_ fun h' tk' dx t1 ⟨k', hx, dn, dne, hns⟩ => ?_
  · show A.depth + 1 < recursionLimit
    exact hroom
  · have old : ∀ b o, hp.get? b = some o → h'.get? b = some o := fun b o e => k' b o (Nat.ne_of_lt (Nat.lt_succ_of_lt (Heap.lt_size e))) (k b o e)
    have z : hp.objs.size + 1 + 1 ≤ dx := by
      have y := dn
      rw [Heap.size_push, Heap.size_push] at y
      exact y
    exact ⟨rfl, hq h' tk' (hp.objs.size + 1) dx ⟨old, Nat.le_succ _, ⟨_, _, hx, rfl, rfl, rfl, rfl⟩, Nat.le_trans (Nat.le_trans (Nat.le_succ _) (Nat.le_succ _)) z, dne, hns⟩⟩
end
/-- what a dict of an exception holds -/
def tlD (v u : V) : List (Str × V) := [("limit", u), ("what", v)]
theorem tlD_rel {v u : V} {v' u' : Value} (rv : RelV v v') (ru : RelV u u') (f : Str) : RelO ((tlD v u).lookup f) (if f = "limit" then some u' else if f = "what" then some v' else none) := by
  unfold tlD
  by_cases h : f = "limit"
  · subst h
    rw [if_pos rfl]
    have e : List.lookup ("limit" : Str) [(("limit" : Str), u), ("what", v)] = some u := by simp [List.lookup]
    rw [e]
    exact ru
  · rw [if_neg h]
    have e : (f == ("limit" : Str)) = false := by simpa using h
    by_cases h2 : f = "what"
    · subst h2
      rw [if_pos rfl]
      have e2 : List.lookup ("what" : Str) [(("limit" : Str), u), ("what", v)] = some v := by simp [List.lookup, e]
      rw [e2]
      exact rv
    · rw [if_neg h2]
      have e2 : (f == ("what" : Str)) = false := by simpa using h2
      have e3 : List.lookup f [(("limit" : Str), u), ("what", v)] = none := by simp [List.lookup, e, e2]
      rw [e3]
      trivial
section
variable {X : Cx} {C fI : Addr}
/-- TooLarge(e1, e2) -/
def tMkTl (C : Addr) (ta : TA) : L2.St → Hp → XK → Prop := fun σ H Q => ta σ H fun vs H1 => ∃ v u, vs = [v, u] ∧ ∀ d, H1 d = none → Q (.ref C) (some d) (upd H1 d (.xd (tlD v u)))
theorem pmk_tl {a b : Expr} {ta : TA} {p pos : Pos} {k : Nat} (T : TlTxt X.prog X.K X.mg C fI) (hr : Room k X.A) (ha : PA X [a, b] ta) (hg : Gl X "TooLarge" := by rfl)
    (he : starEach (a :: [b]) X.env = (false, eval a X.env) :: starEach [b] X.env := by rfl) (hpl : (backTo pos (starEach [b] X.env)).any (·.1) = false := by rfl) :
    PMk X (.Call (.Name "TooLarge" p) [a, b] [] pos) (tMkTl C ta) := by
  intro pins s σ H Q I h
  refine wpAny_Call_Name_kw (ld_glob I hg T.gC ?_)
  refine PySem.W.callWith_K (h₀ := X.base) I.ok.mod.kin T.kC (thn (ha.run pos pins s σ H _ I h) fun us s1 hh => ?_) he hpl
  obtain ⟨vs, H1, I1, r1, v, u, ev, q1⟩ := hh
  subst ev
  refine ⟨I1.kIn, ?_⟩
  cases r1 with
  | cons rv rn =>
    rename_i v' us'
    cases rn with
    | cons ru rn =>
      rename_i u' us''
      cases rn
      show wpAny _ _ (call (.ref C) [v', u']) _ _ _
      have hlim := I1.nolimit
      have gg := I1.mod.glob.keeps I1.bk
      obtain ⟨mb, bb1, bb2⟩ := I1.mod.blt
      have bb : ∃ mb, s1.heap.Ns builtinsNs mb ∧ ∀ y : Str, y ≠ "__name__" → mb y = bootBuiltins y := ⟨mb, bb1.keeps I1.bk, bb2⟩
      obtain ⟨hp, g, dr, tk, os⟩ := s1
      refine wpAny_call (tl_made T I1.kIn hlim gg bb (by have := hr.dp; omega) fun h' tk' e d M => ?_)
      show MkP X pins σ Q (.ref e) ⟨h', g, dr, tk', os⟩
      obtain ⟨oe, fv, hoe, hc, hd, hdat, h1⟩ := M.obj
      have hns := M.ns
      obtain ⟨G', g1, g2⟩ := restrict h' fun b => decide (b ≠ e)
      have gk : ∀ b, b ≠ e → G'.get? b = h'.get? b := fun b hb => g1 b (decide_eq_true hb)
      have ge : G'.get? e = none := g2 e (by simp)
      have old : ∀ b o, hp.get? b = some o → G'.get? b = some o := fun b o q => (gk b (Nat.ne_of_lt (Nat.lt_of_lt_of_le (Heap.lt_size q) M.new))).trans (M.keep b o q)
      have ob : ObjOk X.prog X.w (upd H1 d (.xd (tlD v u))) G' d (.xd (tlD v u)) := ⟨_, hns.at (fun o q => (gk d M.dne).trans q), tlD_rel rv ru⟩
      have J : Inv X pins σ (upd H1 d (.xd (tlD v u))) ⟨G', g, dr, tk', os⟩ := I1.laid (t' := tk') old M.dbig ob
      refine ⟨e, oe, fv, ⟨G', g, dr, tk', os⟩, _, .ref C, some d, rfl, J, fun b o q => ?_, ge, hoe, ⟨hc, hd⟩, hdat, h1, ?_, rfl, I1.bare, raises_own T.exC T.tyC, q1 d (I1.hok.fresh M.dbig)⟩
      · by_cases hb : b = e
        · have q' : G'.get? b = some o := q
          rw [hb, ge] at q'
          cases q'
        · exact (gk b hb).symm.trans q
      · rw [upd_ne (Ne.symm M.dne)]
        exact I1.hok.fresh M.new
end
end Rs

set_option Elab.async false
set_option linter.all false
set_option maxRecDepth 100000
set_option maxHeartbeats 4000000
/-! the graph's methods -/
namespace Rs
open PySem L2 PySem.Spec PyProof.Rows
local macro_rules | `(tactic| walk_at "rs ne") => `(tactic| first | assumption | (apply Ne.symm; assumption) | (apply ne_n1; assumption; walk_at "rs hp") | (apply ne_n2; assumption; walk_at "rs hp"))
local macro_rules | `(tactic| walk_at "rs hp") => `(tactic| first | assumption | exact upd_same | (apply hp_ne; (walk_at "rs ne"); (walk_at "rs hp")))
local macro_rules | `(tactic| walk_at "rs sq") => `(tactic| first | assumption | (apply SqL.of; walk_at "rs hp") | (apply SqT.of; walk_at "rs hp"))
local macro_rules | `(tactic| walk_at "rs sz") => `(tactic| first | decide | (rw [sizeLine_eq]; simp; done) | (rw [sizeLine_eq]; simp; omega) | (rw [sizeLine_eq]; omega))
local macro_rules | `(tactic| walk_at "rs ar") => `(tactic| first | assumption | (show (0 : Int) < _; first | assumption | decide | omega) | exact Or.inr ⟨by decide, by decide⟩ | exact Or.inl ⟨by decide, by decide⟩ | exact Or.inl ⟨by omega, by omega⟩ | exact Or.inr ⟨by omega, by omega⟩ | exact ⟨by decide, by decide, by decide⟩ | exact ⟨by decide, by decide⟩ | exact ⟨by omega, by omega⟩)
local macro_rules | `(tactic| walk_at "rs r1") => `(tactic| with_reducible (first | refine w_var rfl ?_ | refine w_c ?_ | refine w_op ?_ | refine w_un ?_ | refine w_test ?_ | refine w_B ?_ | refine w_bool ?_ | refine w_not ?_ | refine w_cb ?_ | refine w_nil ?_ | refine w_cons ?_ | refine w_asg ?_ | refine w_name ?_ | refine w_seq ?_ | refine w_ret ?_ | refine w_drop ?_ | refine w_next ?_ | refine w_ifS ?_ | refine w_I0 ?_ | refine w_eqI ?_ | refine w_neI ?_ | refine w_int ?_ | refine w_abs ?_ | refine w_sl ?_ | refine w_part ?_ | refine w_intO ?_ | refine w_nopart ?_ | refine w_gsub ?_ | refine w_augS ?_ | refine w_ip ?_ | refine w_lst ?_ | refine w_tup ?_ | refine w_if ?_ | refine w_and ?_ | refine w_or ?_ | refine w_tfld ?_ | refine w_forL ?_ | refine w_forT ?_ | refine w_forR1 ?_ | refine w_forR2 ?_ | refine w_forE ?_ | refine w_lcL ?_ | refine w_lcR1 ?_ | refine w_bm ?_ | refine w_call ?_ | refine w_meth ?_ | refine w_nget ?_ | refine w_nin ?_ | refine w_nput ?_ | refine w_eqS ?_ | refine w_neS ?_))
local macro_rules | `(tactic| walk_at "rs r2") => `(tactic| first | (walk_at "rs r1") | ((with_reducible refine' w_ixL ?h1 ?h2 ?h3); (case h1 => walk_at "rs sq"); (case h2 => first | rfl | exact atI_nat (j := 0) rfl | exact atI_nat (j := 1) rfl | exact atI_nat (j := 2) rfl)) | ((with_reducible refine' w_ixT ?h1 ?h2 ?h3); (case h1 => walk_at "rs sq"); (case h2 => first | rfl | exact atI_nat (j := 0) rfl | exact atI_nat (j := 1) rfl | exact atI_nat (j := 2) rfl)) | ((with_reducible refine' w_cutL ?h1 ?_); (case h1 => walk_at "rs sq"); intro q hq) | ((with_reducible refine' w_cat ?h1 ?h2 ?h3 ?_); (case h1 => walk_at "rs hp"); (case h2 => walk_at "rs hp"); (case h3 => walk_at "rs sz"); intro q hq) | ((with_reducible refine' w_small ?h1 ?_); (case h1 => exact Nat.le_of_ble_eq_true rfl); intro q hq) | ((with_reducible refine' w_setL ?h1 ?h2 ?_); (case h1 => walk_at "rs hp"); (case h2 => rfl)) | ((with_reducible refine' w_getL ?h0 ?h1 ?h2 ?_); (case h0 => rfl); (case h1 => walk_at "rs sq"); (case h2 => rfl)) | ((with_reducible refine' w_lenL ?h1 ?_); (case h1 => walk_at "rs sq")) | ((with_reducible refine' w_lenT ?h1 ?_); (case h1 => walk_at "rs sq")) | ((with_reducible refine' w_fld ?h1 ?h2 ?h3 ?h4 ?_); (case h1 => assumption); (case h2 => assumption); (case h3 => walk_at "rs hp"); (case h4 => assumption)) | ((with_reducible refine' w_methAt ?h1 ?h2 ?_); (case h1 => walk_at "rs hp"); (case h2 => assumption)) | ((with_reducible refine' w_tyL ?h1 ?_); (case h1 => walk_at "rs sq")) | ((with_reducible refine' w_append ?h1 ?h2 ?_); (case h1 => walk_at "rs hp"); (case h2 => assumption)) | ((with_reducible refine' w_I ?h1 ?_); (case h1 => walk_at "rs ar")))
local macro_rules | `(tactic| walk_at "rs rd") => `(tactic| repeat (walk_at "rs r2"))
abbrev sG (i : Nat) : Stmt := inClass (topX 12) i
/-- raise X() of an own exception class without an __init__ of its own -/
theorem pmk_own0 {X : Cx} {C : Addr} {bmB : List Value} {B newId initId : String} {x : Str} {p pos : Pos} (Fb : ExcBaseFacts B newId initId bmB) (q : PySem.W.excIn X.K C bmB newId = true) (gC : X.mg x = some (.ref C)) (kC : PySem.W.keepIn X.K (.ref C) = true)
    (r : Raises X (.ref C)) (hg : Gl X x) (hdb : (x == ("__debug__" : Str)) = false := by decide) : PMk X (.Call (.Name x p) [] [] pos) (fun _ H Q => Q (.ref C) none H) := by
  intro pins s σ H Q I h
  refine wpAny_Call_Name_kw (ld_glob I hg gC ?_ hdb)
  refine PySem.W.callWith_K0 I.kIn kC ?_
  obtain ⟨bm, N, nm, qn, bs, hdct, sn, sub, ab, col, dd, k0, k1, k2, k3, k5, mN, hC, hN, hni, T⟩ := exc_obj I.kIn q
  exact wpAny_call_exc_subT Fb T hC hN hni (fun h' e hm => mk_of I hm r h (I.hok.gone hm.new)) (Nat.zero_le _)
/-- a list's items with their places -/
def kvsOf : List NestedKey → Nat → List (NestedKey × V)
  | [], _ => []
  | k :: r, n => (k, .int (n : Int)) :: kvsOf r (n + 1)
theorem kvsOf_len : ∀ (L : List NestedKey) (n : Nat), (kvsOf L n).length = L.length
  | [], _ => rfl
  | _ :: r, n => by simp [kvsOf, kvsOf_len r (n + 1)]
theorem kvsOf_snoc (k : NestedKey) : ∀ (L : List NestedKey) (n : Nat), kvsOf (L ++ [k]) n = kvsOf L n ++ [(k, .int ((n + L.length : Nat) : Int))]
  | [], n => by simp [kvsOf]
  | a :: r, n => by
    rw [List.cons_append, kvsOf, kvsOf_snoc k r (n + 1), kvsOf, List.cons_append, List.length_cons]
    congr 5
    omega
theorem kvsOf_none {k : NestedKey} : ∀ {L : List NestedKey} {n : Nat}, k ∉ L → valV (kvsOf L n) k = none
  | [], _, _ => rfl
  | a :: r, n, h => by
    have h1 : ¬ a = k := fun e => h (by rw [e]; exact List.mem_cons_self)
    rw [kvsOf, valV_neg h1]
    exact kvsOf_none fun z => h (List.mem_cons_of_mem _ z)
theorem kvsOf_at {k : NestedKey} : ∀ {L : List NestedKey} {n i : Nat}, L.Nodup → L[i]? = some k → valV (kvsOf L n) k = some (.int ((n + i : Nat) : Int))
  | [], _, _, _, h => by simp at h
  | a :: r, n, 0, _, h => by
    have e : a = k := by simpa using h
    rw [kvsOf, valV_pos e]
    rfl
  | a :: r, n, i + 1, nd, h => by
    have nd' := List.nodup_cons.mp nd
    have hr : r[i]? = some k := by simpa using h
    have h1 : ¬ a = k := fun e => nd'.1 (by rw [e]; exact List.mem_of_getElem? hr)
    rw [kvsOf, valV_neg h1, kvsOf_at (n := n + 1) nd'.2 hr]
    congr 3
    omega
theorem kvsOf_put {k : NestedKey} {L : List NestedKey} (h : k ∉ L) : putK (kvsOf L 0) k (.int (L.length : Int)) = kvsOf (L ++ [k]) 0 := by
  rw [putK_new _ (kvsOf_none h), kvsOf_snoc]
  simp
/-- a graph's attributes -/
def gf (l d : Addr) : List (Str × V) := putF "known_heads" (.ref d) (putF "heads" (.ref l) [])
theorem hk_ : ¬ (("heads" : Str) = "known_heads") := by decide +kernel
theorem gf_heads (l d : Addr) : (gf l d).lookup ("heads" : Str) = some (.ref l) := by
  unfold gf
  rw [lookup_putF, if_neg hk_, lookup_putF, if_pos rfl]
theorem gf_known (l d : Addr) : (gf l d).lookup ("known_heads" : Str) = some (.ref d) := by
  unfold gf
  rw [lookup_putF, if_pos rfl]
theorem gf_no (l d : Addr) {m : Str} (h1 : ¬ m = "known_heads") (h2 : ¬ m = "heads") : (gf l d).lookup m = none := by
  unfold gf
  rw [lookup_putF, if_neg h1, lookup_putF, if_neg h2]
  all_goals rfl
/-- a graph at g, its heads' list at l, their dict at d: the nodes L -/
def GraphAt (P : Program) (w : World) (C : Addr) (H : Hp) (g l d : Addr) (L : List NestedKey) : Prop :=
  ∃ dx vs, H g = some (.ins C dx (gf l d)) ∧ H l = some (.lst vs) ∧ NKs H L vs ∧ ND P w H d (kvsOf L 0) ∧ L.Nodup ∧ (∀ k ∈ L, k.depth ≤ 8) ∧ L.length ≤ 3000
theorem NKs.len {H : Hp} : ∀ {L : List NestedKey} {vs : List V}, NKs H L vs → L.length = vs.length
  | [], _, h => by cases h; rfl
  | _ :: _, _, h => by
    cases h with
    | cons _ r => simp [r.len]
theorem NKs.get {H : Hp} : ∀ {L : List NestedKey} {vs : List V} {i : Nat} {k : NestedKey}, NKs H L vs → L[i]? = some k → ∃ v, vs[i]? = some v ∧ NK H k v
  | [], _, _, _, _, e => by simp at e
  | _ :: _, _, 0, _, h, e => by
    cases h with
    | cons a r => exact ⟨_, rfl, by simpa using (by simpa using e : _ = _) ▸ a⟩
  | _ :: _, _, i + 1, _, h, e => by
    cases h with
    | cons a r =>
      obtain ⟨v, h1, h2⟩ := NKs.get (i := i) r (by simpa using e)
      exact ⟨v, by simpa using h1, h2⟩
theorem NKs.snoc {H : Hp} {k : NestedKey} {v : V} (hk : NK H k v) : ∀ {L : List NestedKey} {vs : List V}, NKs H L vs → NKs H (L ++ [k]) (vs ++ [v])
  | [], _, h => by cases h; exact .cons hk .nil
  | _ :: _, _, h => by
    cases h with
    | cons a r => exact .cons a (NKs.snoc hk r)
theorem GraphAt.frame {P : Program} {w : World} {C : Addr} {S : List Addr} {H H' : Hp} {g l d : Addr} {L : List NestedKey} (x : GraphAt P w C H g l d L) (f : Fm S H H') (hg : g ∉ S) (hl : l ∉ S) (hd : d ∉ S) (ht : ∀ b xs, H b = some (.tup xs) → b ∉ S) : GraphAt P w C H' g l d L := by
  obtain ⟨dx, vs, h1, h2, h3, h4, h5, h6, h7⟩ := x
  have tp : ∀ b xs, H b = some (.tup xs) → H' b = some (.tup xs) := fun b xs e => f _ _ e (ht b xs e)
  exact ⟨dx, vs, f _ _ h1 hg, f _ _ h2 hl, NKs.mono tp _ _ h3, h4.frame (fun o e => f _ _ e hd) tp, h5, h6, h7⟩
structure TxtG (prog : Program) (K : PySem.W.Frag) (mg : Str → Option Value) (C CT fT CN : Addr) : Prop where
  cl : Cls K C
  nH : NoAttr K C "heads"
  nK : NoAttr K C "known_heads"
  len : mg "len" = none
  tuple : mg "tuple" = none
  most : mg "MOST_NODES" = some (.int 3000 0) ∨ ∃ t, mg "MOST_NODES" = some (.int 3000 t)
  tl : TlTxt prog K mg CT fT
  gN : mg "Nothing" = some (.ref CN)
  xN : PySem.W.excIn K CN [.type "ValueError", .type "Exception", .type "BaseException", .type "object"] "ValueError.__new__" = true
  kN : PySem.W.keepIn K (.ref CN) = true
  sN : PySem.W.subIn K (.ref CN) (.type "BaseException") = some true
  tN : PySem.W.typeIn K (.ref CN) = some (.type "type")

def spNum (P : Program) (w : World) (C CT : Addr) : Sp := fun vs H Q E => ∃ (g p l d : Addr) (L : List NestedKey) (k : NestedKey), vs = [.ref g, .ref p] ∧ GraphAt P w C H g l d L ∧ NK H k (.ref p) ∧ k.depth ≤ 8 ∧
  (∀ i : Nat, L[i]? = some k → Q (.int (i : Int)) H) ∧ (k ∉ L → L.length < 3000 → ∀ H', GraphAt P w C H' g l d (L ++ [k]) → Fm [l, d] H H' → Q (.int (L.length : Int)) H') ∧
  (k ∉ L → ¬ L.length < 3000 → ∀ dd, H dd = none → E (.ref CT) (some dd) (upd H dd (.xd (tlD (.str "nodes") (.int 3000)))))
section
variable {P : Program} {w : World} {K : PySem.W.Frag} {mg : Str → Option Value} {base : Heap} {C CT fT CN : Addr}
theorem GraphAt.parts {H : Hp} {g l d : Addr} {L : List NestedKey} (x : GraphAt P w C H g l d L) : g ≠ l ∧ g ≠ d ∧ l ≠ d := by
  obtain ⟨dx, vs, h1, h2, h3, ⟨es, h4, _⟩, _⟩ := x
  exact ⟨ne_of h1 h2 (by intro z; cases z), ne_of h1 h4 (fun z => ndo_ins z.symm), ne_of h2 h4 (fun z => ndo_lst z.symm)⟩
theorem scNum : FnScope ["self", "head"] ["self", "head"] (defScope (sG 2)) := ⟨rfl, rfl, rfl, by decide +kernel, rfl, by decide +kernel, by decide +kernel⟩
theorem ok_num {f : Addr} {fd : FuncData} (F : Fun K "numbered" "Graph.numbered" (sG 2) f fd) (T : TxtG P K mg C CT fT CN) : FnOk P w K mg base (L2.CX P w) 3 f fd ["self", "head"] (spNum P w C CT) := by
  refine F.okX scNum (fun vs H Q E h => ?_) (fun cdv A outer s H vs Q E hr h => ?_)
  · obtain ⟨g, p, l, d, L, k, rfl, _⟩ := h
    rfl
  · obtain ⟨g, p, l, d, L, k, rfl, G, hk, hdp, q1, q2, q3⟩ := h
    have nd := scNum.nd
    have hu := hr.units
    obtain ⟨t, hm⟩ : ∃ t, mg "MOST_NODES" = some (.int 3000 t) := T.most.elim (fun h => ⟨_, h⟩) fun h => h
    refine ⟨_, Evl.pss_cut (ps_if (pt_cmp (pc_nnotin hu (pv 1) (pe_fld (pv 0) rfl)))
        (pss_cons (ps_if (pt_cmpR op_ge (pe_callB c_len (by rfl) T.len PySem.boot_len (pa_cons (pe_fld (pv 0) rfl) pa_nil)) (pe_glob (v := .int 3000) rfl hm ⟨_, rfl⟩) (nomark _))
          (pss_one (ps_raise rfl (takes_of rfl rfl rfl rfl) (pmk_tl T.tl hr (pa_cons pe_str (pa_cons (pe_glob (v := .int 3000) rfl hm ⟨_, rfl⟩) pa_nil))))) pss_nil)
        (pss_cons (ps_nput hu (pe_fld (pv 0) rfl) (pv 1) (pe_callB c_len (by rfl) T.len PySem.boot_len (pa_cons (pe_fld (pv 0) rfl) pa_nil)) rfl)
        (pss_one (ps_expr (pe_bm PySem.F.plainAttrs_list PySem.F.slot_list_append PySem.F.type_list_append mt_append (pe_fld (pv 0) rfl) (pa_cons (pv 1) pa_nil)))))) pss_nil)
      (pss_one (ps_ret (pe_nget hu (pe_fld (pv 0) rfl) (pv 1) (fun _ _ => rfl)))), ?_⟩
    have cl := T.cl
    have nH := T.nH
    have nK := T.nK
    have gH := gf_heads l d
    have gK := gf_known l d
    obtain ⟨dx, vs, h1, h2, h3, h4, h5, h6, h7⟩ := id G
    obtain ⟨gl, gd, ld⟩ := G.parts
    refine w_cut (M := fun σ' H' => σ' = [some (.ref g), some (.ref p)] ∧ ((k ∈ L ∧ H' = H) ∨ (k ∉ L ∧ L.length < 3000 ∧ GraphAt P w C H' g l d (L ++ [k]) ∧ Fm [l, d] H H'))) ?_ ?_
    · walk_at "rs rd"
      refine ⟨d, p, _, k, rfl, rfl, h4, hk, hdp, ?_⟩
      by_cases hkL : k ∈ L
      · obtain ⟨i, hi⟩ := List.getElem?_of_mem hkL
        have e : (valV (kvsOf L 0) k).isSome = true := by rw [kvsOf_at h5 hi]; rfl
        refine ⟨false, by rw [e]; rfl, ?_⟩
        rw [if_neg Bool.false_ne_true]
        walk_at "rs rd"
        exact ⟨rfl, .inl ⟨hkL, rfl⟩⟩
      · have e : (valV (kvsOf L 0) k).isSome = false := by rw [kvsOf_none hkL]; rfl
        refine ⟨true, by rw [e]; rfl, ?_⟩
        rw [if_pos rfl]
        have hlen := h3.len
        walk_at "rs rd"
        refine w_ite (fun e1 => ?_) (fun e1 => ?_)
        · refine w_cons ?_
          walk_at "rs rd"
          refine ⟨_, _, rfl, fun dd hdd => ?_⟩
          exact q3 hkL (by omega) dd hdd
        · walk_at "rs rd"
          refine ⟨d, p, _, k, rfl, rfl, h4, hk, hdp, (by rw [kvsOf_len, sizeLine_eq]; omega), fun H4 d4 e4 => ?_⟩
          have hz : vs.length < sizeLine := by rw [sizeLine_eq]; omega
          have h1' : H4 g = some (.ins C dx (gf l d)) := (e4 g gd).trans h1
          have h2' : H4 l = some (.lst vs) := (e4 l ld).trans h2
          walk_at "rs rd"
          have f1 : Fm [l, d] H H4 := fun a o ea na => (e4 a fun z => na (by simp [z])).trans ea
          have f2 : Fm [l, d] H (upd H4 l (.lst (vs ++ [.ref p]))) := f1.thenPut (by simp)
          have tp : ∀ b xs, H b = some (.tup xs) → upd H4 l (.lst (vs ++ [.ref p])) b = some (.tup xs) := fun b xs eb => f2 b _ eb fun z => by
            obtain ⟨es, hd', _⟩ := id h4
            rcases List.mem_cons.mp z with z | z
            · subst z; rw [h2] at eb; cases eb
            · rw [List.mem_singleton] at z
              subst z
              exact ndo_tup (Option.some.inj (hd'.symm.trans eb))
          have tp4 : ∀ b xs, H4 b = some (.tup xs) → upd H4 l (.lst (vs ++ [.ref p])) b = some (.tup xs) := fun b xs eb => by
            rw [upd_ne (fun z => by rw [z, h2'] at eb; cases eb)]
            exact eb
          refine ⟨rfl, .inr ⟨hkL, by omega, ⟨dx, _, by walk_at "rs hp", upd_same, NKs.snoc (NK.mono tp _ _ hk) (NKs.mono tp _ _ h3), ?_, ?_, ?_, ?_⟩, f2⟩⟩
          · have q := d4.frame (H' := upd H4 l (.lst (vs ++ [.ref p]))) (fun o eo => by rw [upd_ne (Ne.symm ld)]; exact eo) tp4
            have ev : (V.int (vs.length : Int)) = .int (L.length : Int) := by rw [hlen]
            rw [ev, kvsOf_put hkL] at q
            exact q
          · exact List.nodup_append.mpr ⟨h5, by simp, fun a ha b hb => by rw [List.mem_singleton] at hb; subst hb; exact fun z => hkL (z ▸ ha)⟩
          · intro a ha
            rcases List.mem_append.mp ha with ha | ha
            · exact h6 a ha
            · rw [List.mem_singleton] at ha; subst ha; exact hdp
          · rw [List.length_append, List.length_singleton]; omega
    · rintro σ' H' ⟨rfl, ⟨hkL, rfl⟩ | ⟨hkL, hl3, G', f'⟩⟩
      · walk_at "rs rd"
        obtain ⟨i, hi⟩ := List.getElem?_of_mem hkL
        have e := kvsOf_at (n := 0) h5 hi
        rw [Nat.zero_add] at e
        exact ⟨d, p, _, k, _, rfl, rfl, h4, hk, hdp, e, q1 i hi⟩
      · obtain ⟨dx', vs', h1', h2', h3', h4', h5', h6', h7'⟩ := id G'
        walk_at "rs rd"
        have hi : (L ++ [k])[L.length]? = some k := by simp
        have e := kvsOf_at (n := 0) h5' hi
        rw [Nat.zero_add] at e
        have tp : ∀ b xs, H b = some (.tup xs) → H' b = some (.tup xs) := fun b xs eb => f' b _ eb fun z => by
          obtain ⟨es, hd', _⟩ := id h4
          rcases List.mem_cons.mp z with z | z
          · subst z; rw [h2] at eb; cases eb
          · rw [List.mem_singleton] at z
            subst z
            exact ndo_tup (Option.some.inj (hd'.symm.trans eb))
        exact ⟨d, p, _, k, _, rfl, rfl, h4', NK.mono tp _ _ hk, hdp, e, q2 hkL hl3 H' G' f'⟩
end
end Rs

set_option Elab.async false
set_option linter.all false
set_option maxRecDepth 100000
set_option maxHeartbeats 4000000
/-! the graph's other methods -/
namespace Rs
open PySem L2 PySem.Spec PyProof.Rows
local macro_rules | `(tactic| walk_at "rs ne") => `(tactic| first | assumption | (apply Ne.symm; assumption) | (apply ne_n1; assumption; walk_at "rs hp") | (apply ne_n2; assumption; walk_at "rs hp"))
local macro_rules | `(tactic| walk_at "rs hp") => `(tactic| first | assumption | exact upd_same | (apply hp_ne; (walk_at "rs ne"); (walk_at "rs hp")))
local macro_rules | `(tactic| walk_at "rs sq") => `(tactic| first | assumption | (apply SqL.of; walk_at "rs hp") | (apply SqT.of; walk_at "rs hp"))
local macro_rules | `(tactic| walk_at "rs sz") => `(tactic| first | decide | (rw [sizeLine_eq]; simp; done) | (rw [sizeLine_eq]; simp; omega) | (rw [sizeLine_eq]; omega))
local macro_rules | `(tactic| walk_at "rs ar") => `(tactic| first | assumption | (show (0 : Int) < _; first | assumption | decide | omega) | exact Or.inr ⟨by decide, by decide⟩ | exact Or.inl ⟨by decide, by decide⟩ | exact Or.inl ⟨by omega, by omega⟩ | exact Or.inr ⟨by omega, by omega⟩ | exact ⟨by decide, by decide, by decide⟩ | exact ⟨by decide, by decide⟩ | exact ⟨by omega, by omega⟩)
local macro_rules | `(tactic| walk_at "rs r1") => `(tactic| with_reducible (first | refine w_var rfl ?_ | refine w_c ?_ | refine w_op ?_ | refine w_un ?_ | refine w_test ?_ | refine w_B ?_ | refine w_bool ?_ | refine w_not ?_ | refine w_cb ?_ | refine w_nil ?_ | refine w_cons ?_ | refine w_asg ?_ | refine w_name ?_ | refine w_seq ?_ | refine w_ret ?_ | refine w_drop ?_ | refine w_next ?_ | refine w_ifS ?_ | refine w_I0 ?_ | refine w_eqI ?_ | refine w_neI ?_ | refine w_int ?_ | refine w_abs ?_ | refine w_sl ?_ | refine w_part ?_ | refine w_intO ?_ | refine w_nopart ?_ | refine w_gsub ?_ | refine w_augS ?_ | refine w_ip ?_ | refine w_lst ?_ | refine w_tup ?_ | refine w_if ?_ | refine w_and ?_ | refine w_or ?_ | refine w_tfld ?_ | refine w_forL ?_ | refine w_forT ?_ | refine w_forR1 ?_ | refine w_forR2 ?_ | refine w_forE ?_ | refine w_lcL ?_ | refine w_lcR1 ?_ | refine w_bm ?_ | refine w_call ?_ | refine w_meth ?_ | refine w_nget ?_ | refine w_nin ?_ | refine w_nput ?_ | refine w_eqS ?_ | refine w_neS ?_))
local macro_rules | `(tactic| walk_at "rs r2") => `(tactic| first | (walk_at "rs r1") | ((with_reducible refine' w_ixL ?h1 ?h2 ?h3); (case h1 => walk_at "rs sq"); (case h2 => first | rfl | exact atI_nat (j := 0) rfl | exact atI_nat (j := 1) rfl | exact atI_nat (j := 2) rfl)) | ((with_reducible refine' w_ixT ?h1 ?h2 ?h3); (case h1 => walk_at "rs sq"); (case h2 => first | rfl | exact atI_nat (j := 0) rfl | exact atI_nat (j := 1) rfl | exact atI_nat (j := 2) rfl)) | ((with_reducible refine' w_cutL ?h1 ?_); (case h1 => walk_at "rs sq"); intro q hq) | ((with_reducible refine' w_cat ?h1 ?h2 ?h3 ?_); (case h1 => walk_at "rs hp"); (case h2 => walk_at "rs hp"); (case h3 => walk_at "rs sz"); intro q hq) | ((with_reducible refine' w_small ?h1 ?_); (case h1 => exact Nat.le_of_ble_eq_true rfl); intro q hq) | ((with_reducible refine' w_setL ?h1 ?h2 ?_); (case h1 => walk_at "rs hp"); (case h2 => rfl)) | ((with_reducible refine' w_getL ?h0 ?h1 ?h2 ?_); (case h0 => rfl); (case h1 => walk_at "rs sq"); (case h2 => rfl)) | ((with_reducible refine' w_lenL ?h1 ?_); (case h1 => walk_at "rs sq")) | ((with_reducible refine' w_lenT ?h1 ?_); (case h1 => walk_at "rs sq")) | ((with_reducible refine' w_fld ?h1 ?h2 ?h3 ?h4 ?_); (case h1 => assumption); (case h2 => assumption); (case h3 => walk_at "rs hp"); (case h4 => assumption)) | ((with_reducible refine' w_methAt ?h1 ?h2 ?_); (case h1 => walk_at "rs hp"); (case h2 => assumption)) | ((with_reducible refine' w_tyL ?h1 ?_); (case h1 => walk_at "rs sq")) | ((with_reducible refine' w_append ?h1 ?h2 ?_); (case h1 => walk_at "rs hp"); (case h2 => assumption)) | ((with_reducible refine' w_I ?h1 ?_); (case h1 => walk_at "rs ar")))
local macro_rules | `(tactic| walk_at "rs rd") => `(tactic| repeat (walk_at "rs r2"))
def spMany (P : Program) (w : World) (C : Addr) : Sp := fun vs H Q _ => ∃ (g l d : Addr) (L : List NestedKey), vs = [.ref g] ∧ GraphAt P w C H g l d L ∧ Q (.int (L.length : Int)) H
/-- the head of a node's number, or Nothing -/
def spHead (P : Program) (w : World) (C CN : Addr) : Sp := fun vs H Q E => ∃ (g l d : Addr) (L : List NestedKey) (n : Int), vs = [.ref g, .int n] ∧ GraphAt P w C H g l d L ∧
  (∀ (i : Nat) (k : NestedKey) (v : V), n = (i : Int) → L[i]? = some k → NK H k v → Q v H) ∧ ((n < 0 ∨ (L.length : Int) ≤ n) → E (.ref CN) none H)
def spIsL (P : Program) (w : World) (C CN : Addr) : Sp := fun vs H Q E => ∃ (g l d : Addr) (L : List NestedKey) (n : Int), vs = [.ref g, .int n] ∧ GraphAt P w C H g l d L ∧ (∀ k ∈ L, ∃ s r, k = .tup (.text s :: r)) ∧
  (∀ (i : Nat) (s : Str) (r : List NestedKey), n = (i : Int) → L[i]? = some (.tup (.text s :: r)) → Q (.bl (decide (s = "letter"))) H) ∧ ((n < 0 ∨ (L.length : Int) ≤ n) → E (.ref CN) none H)
def spKey (P : Program) (w : World) (C CN : Addr) (what : Str) : Sp := fun vs H Q E => ∃ (g l d : Addr) (L : List NestedKey) (n : Int), vs = [.ref g, .int n] ∧ GraphAt P w C H g l d L ∧ (∀ k ∈ L, ∃ s b r, k = .tup (.text s :: b :: r)) ∧
  (∀ (i : Nat) (b : NestedKey) (r : List NestedKey) (v : V), n = (i : Int) → L[i]? = some (.tup (.text what :: b :: r)) → NK H b v → Q v H) ∧
  (∀ (i : Nat) (s : Str) (b : NestedKey) (r : List NestedKey), n = (i : Int) → L[i]? = some (.tup (.text s :: b :: r)) → s ≠ what → E (.ref CN) none H) ∧ ((n < 0 ∨ (L.length : Int) ≤ n) → E (.ref CN) none H)
def spParts (P : Program) (w : World) (C CN : Addr) : Sp := fun vs H Q E => ∃ (g l d : Addr) (L : List NestedKey) (n : Int), vs = [.ref g, .int n] ∧ GraphAt P w C H g l d L ∧
  (∀ k ∈ L, (∃ b, k = .tup [.text "letter", b]) ∨ ∃ o ps, k = .tup [.text "op", .text o, .tup ps]) ∧
  (∀ (i : Nat) (b : NestedKey), n = (i : Int) → L[i]? = some (.tup [.text "letter", b]) → ∀ p, H p = none → Q (.ref p) (upd H p (.tup []))) ∧
  (∀ (i : Nat) (o : Str) (ps : List NestedKey) (v : V), n = (i : Int) → L[i]? = some (.tup [.text "op", .text o, .tup ps]) → NK H (.tup ps) v → Q v H) ∧ ((n < 0 ∨ (L.length : Int) ≤ n) → E (.ref CN) none H)
def spLetter (P : Program) (w : World) (C CT : Addr) : Sp := fun vs H Q E => ∃ (g l d : Addr) (L : List NestedKey) (key : NestedKey) (kv : V), vs = [.ref g, kv] ∧ GraphAt P w C H g l d L ∧ NK H key kv ∧ key.depth ≤ 7 ∧
  (∀ (i : Nat) H', L[i]? = some (.tup [.text "letter", key]) → GraphAt P w C H' g l d L → Fm [] H H' → Q (.int (i : Int)) H') ∧
  (.tup [.text "letter", key] ∉ L → L.length < 3000 → ∀ H', GraphAt P w C H' g l d (L ++ [.tup [.text "letter", key]]) → Fm [l, d] H H' → Q (.int (L.length : Int)) H') ∧
  (.tup [.text "letter", key] ∉ L → ¬ L.length < 3000 → ∀ dd H', H' dd = some (.xd (tlD (.str "nodes") (.int 3000))) → H dd = none → GraphAt P w C H' g l d L → Fm [] H H' → E (.ref CT) (some dd) H')
def spNode (P : Program) (w : World) (C CT CN : Addr) : Sp := fun vs H Q E => ∃ (g l d pp : Addr) (L : List NestedKey) (o : Str) (ns : List Int), vs = [.ref g, .str o, .ref pp] ∧ GraphAt P w C H g l d L ∧ H pp = some (.tup (ns.map V.int)) ∧
  ((∃ n ∈ ns, n < 0 ∨ (L.length : Int) ≤ n) → E (.ref CN) none H) ∧
  ((∀ n ∈ ns, 0 ≤ n ∧ n < (L.length : Int)) → 
    (∀ (i : Nat) H', L[i]? = some (.tup [.text "op", .text o, .tup (ns.map .num)]) → GraphAt P w C H' g l d L → Fm [] H H' → Q (.int (i : Int)) H') ∧
    (.tup [.text "op", .text o, .tup (ns.map .num)] ∉ L → L.length < 3000 → ∀ H', GraphAt P w C H' g l d (L ++ [.tup [.text "op", .text o, .tup (ns.map .num)]]) → Fm [l, d] H H' → Q (.int (L.length : Int)) H') ∧
    (.tup [.text "op", .text o, .tup (ns.map .num)] ∉ L → ¬ L.length < 3000 → ∀ dd H', H' dd = some (.xd (tlD (.str "nodes") (.int 3000))) → H dd = none → GraphAt P w C H' g l d L → Fm [] H H' → E (.ref CT) (some dd) H'))

section
variable {P : Program} {w : World} {K : PySem.W.Frag} {mg : Str → Option Value} {base : Heap} {C CT fT CN : Addr}
theorem GraphAt.tp {H H' : Hp} {g l d : Addr} {L : List NestedKey} (x : GraphAt P w C H g l d L) {S : List Addr} (f : Fm S H H') (hS : ∀ a ∈ S, a = l ∨ a = d ∨ a = g) : ∀ b xs, H b = some (.tup xs) → H' b = some (.tup xs) := fun b xs eb => f b _ eb fun z => by
  obtain ⟨dx, vs, h1, h2, _, ⟨es, h4, _⟩, _⟩ := x
  rcases hS b z with rfl | rfl | rfl
  · rw [h2] at eb; cases eb
  · exact ndo_tup (Option.some.inj (h4.symm.trans eb))
  · rw [h1] at eb; cases eb
theorem GraphAt.same {H H' : Hp} {g l d : Addr} {L : List NestedKey} (x : GraphAt P w C H g l d L) (f : Fm [] H H') : GraphAt P w C H' g l d L := x.frame f List.not_mem_nil List.not_mem_nil List.not_mem_nil fun _ _ _ => List.not_mem_nil
theorem scMany : FnScope ["self"] ["self"] (defScope (sG 1)) := ⟨rfl, rfl, rfl, by decide +kernel, rfl, by decide +kernel, by decide +kernel⟩
theorem ok_many {f : Addr} {fd : FuncData} (F : Fun K "many" "Graph.many" (sG 1) f fd) (T : TxtG P K mg C CT fT CN) : FnOk P w K mg base CX0 1 f fd ["self"] (spMany P w C) := by
  refine F.ok scMany (fun vs H Q E h => ?_) (fun cdv A outer s H vs Q E hr h => ?_)
  · obtain ⟨g, l, d, L, rfl, _⟩ := h
    rfl
  · obtain ⟨g, l, d, L, rfl, G, q⟩ := h
    refine ⟨_, pss_one (ps_ret (pe_callB c_len (by rfl) T.len PySem.boot_len (pa_cons (pe_fld (pv 0) rfl) pa_nil))), ?_⟩
    have cl := T.cl
    have nH := T.nH
    have gH := gf_heads l d
    obtain ⟨dx, vs, h1, h2, h3, h4, h5, h6, h7⟩ := id G
    have hlen := h3.len
    walk_at "rs rd"
    rw [← hlen]
    exact q
theorem scHead : FnScope ["self", "n"] ["self", "n"] (defScope (sG 5)) := ⟨rfl, rfl, rfl, by decide +kernel, rfl, by decide +kernel, by decide +kernel⟩
theorem ok_head {f : Addr} {fd : FuncData} (F : Fun K "head_of" "Graph.head_of" (sG 5) f fd) (T : TxtG P K mg C CT fT CN) : FnOk P w K mg base (L2.CX P w) 2 f fd ["self", "n"] (spHead P w C CN) := by
  refine F.okX scHead (fun vs H Q E h => ?_) (fun cdv A outer s H vs Q E hr h => ?_)
  · obtain ⟨g, l, d, L, n, rfl, _⟩ := h
    rfl
  · obtain ⟨g, l, d, L, n, rfl, G, q1, q2⟩ := h
    refine ⟨_, pss_cons (ps_if (pw_or (pt_cmpR op_lt (pv 1) pe_int (nomark _)) (pw_or1 (pt_cmpR op_ge (pv 1) (pe_callB c_len (by rfl) T.len PySem.boot_len (pa_cons (pe_fld (pv 0) rfl) pa_nil)) (nomark _)))).pt
        (pss_one (ps_raise rfl (takes_of rfl rfl rfl rfl) (pmk_own0 PySem.F.excBase_ValueError T.xN T.gN T.kN (raises_own T.sN T.tN) rfl))) pss_nil)
      (pss_one (ps_ret (pe_ix ix_list (pe_fld (pv 0) rfl) (pv 1) (fun _ _ => rfl)))), ?_⟩
    have cl := T.cl
    have nH := T.nH
    have gH := gf_heads l d
    obtain ⟨dx, vs, h1, h2, h3, h4, h5, h6, h7⟩ := id G
    have hlen := h3.len
    walk_at "rs rd"
    refine w_ite (fun e1 => ?_) (fun e1 => ?_)
    · walk_at "rs rd"
      rw [if_pos rfl]
      exact q2 (.inl e1)
    · walk_at "rs rd"
      refine w_ite (fun e2 => ?_) (fun e2 => ?_)
      · exact q2 (.inr (by omega))
      · walk_at "rs rd"
        obtain ⟨i, rfl⟩ : ∃ i : Nat, n = (i : Int) := ⟨n.toNat, by omega⟩
        have hi : i < L.length := by omega
        obtain ⟨v, hv, hk⟩ := h3.get (List.getElem?_eq_getElem hi)
        refine w_ixL (by walk_at "rs sq") (atI_nat hv) ?_
        exact q1 i _ v rfl (List.getElem?_eq_getElem hi) hk
/-- the head of a node in place: a tuple that begins with a text -/
theorem head_nk {H : Hp} {L : List NestedKey} {vs : List V} {k : NestedKey} {i : Nat} (h3 : NKs H L vs) (h : L[i]? = some k) : ∃ v, NK H k v := (h3.get h).imp fun _ z => z.2
theorem scIsL : FnScope ["self", "n"] ["self", "n"] (defScope (sG 6)) := ⟨rfl, rfl, rfl, by decide +kernel, rfl, by decide +kernel, by decide +kernel⟩
theorem ok_isL {f fH : Addr} {fd fdH : FuncData} (F : Fun K "is_letter" "Graph.is_letter" (sG 6) f fd) (T : TxtG P K mg C CT fT CN) (GH : FnOk P w K mg base (L2.CX P w) 2 fH fdH ["self", "n"] (spHead P w C CN)) (bH : Binds K fdH ["self", "n"] []) (mH : Meth K C "head_of" fH) :
    FnOk P w K mg base (L2.CX P w) 3 f fd ["self", "n"] (spIsL P w C CN) := by
  refine F.okX scIsL (fun vs H Q E h => ?_) (fun cdv A outer s H vs Q E hr h => ?_)
  · obtain ⟨g, l, d, L, n, rfl, _⟩ := h
    rfl
  · obtain ⟨g, l, d, L, n, rfl, G, hL, q1, q2⟩ := h
    refine ⟨_, pss_one (ps_ret (pe_cmpR op_eq (pe_ix ix_tup (pe_meth (E := E) (pv 0) T.cl mH GH hr bH .nil (passes_call (takes_of rfl rfl rfl rfl) fun _ _ _ _ h => h) (pa_cons (pv 1) pa_nil)) pe_int (fun _ _ => rfl)) pe_str (nomark _))), ?_⟩
    have nM : (gf l d).lookup ("head_of" : Str) = none := gf_no _ _ (by decide +kernel) (by decide +kernel)
    obtain ⟨dx, vs, h1, h2, h3, h4, h5, h6, h7⟩ := id G
    walk_at "rs rd"
    refine ⟨g, l, d, L, n, rfl, G, fun i k v hn hk hv => ?_, q2⟩
    obtain ⟨s, r, rfl⟩ := hL k (List.mem_of_getElem? hk)
    cases hv with
    | tup ea ra =>
      cases ra with
      | cons r1 r2 =>
        cases r1
        walk_at "rs rd"
        exact q1 i s r hn hk
theorem scOp : FnScope ["self", "n", "head"] ["self", "n"] (defScope (sG 8)) := ⟨rfl, rfl, rfl, by decide +kernel, rfl, by decide +kernel, by decide +kernel⟩
theorem ok_op {f fH : Addr} {fd fdH : FuncData} (F : Fun K "op_of" "Graph.op_of" (sG 8) f fd) (T : TxtG P K mg C CT fT CN) (GH : FnOk P w K mg base (L2.CX P w) 2 fH fdH ["self", "n"] (spHead P w C CN)) (bH : Binds K fdH ["self", "n"] []) (mH : Meth K C "head_of" fH) :
    FnOk P w K mg base (L2.CX P w) 3 f fd ["self", "n"] (spKey P w C CN "op") := by
  refine F.okX scOp (fun vs H Q E h => ?_) (fun cdv A outer s H vs Q E hr h => ?_)
  · obtain ⟨g, l, d, L, n, rfl, _⟩ := h
    rfl
  · obtain ⟨g, l, d, L, n, rfl, G, hL, q1, q2, q3⟩ := h
    have nd := scOp.nd
    refine ⟨_, pss_cons (ps_set (i := 2) nd rfl (Or.inl rfl) (pe_meth (E := E) (pv 0) T.cl mH GH hr bH .nil (passes_call (takes_of rfl rfl rfl rfl) fun _ _ _ _ h => h) (pa_cons (pv 1) pa_nil)))
      (pss_cons (ps_if (pt_cmpR op_ne (pe_ix ix_tup (pv 2) pe_int (fun _ _ => rfl)) pe_str (nomark _)) (pss_one (ps_raise rfl (takes_of rfl rfl rfl rfl) (pmk_own0 PySem.F.excBase_ValueError T.xN T.gN T.kN (raises_own T.sN T.tN) rfl))) pss_nil)
      (pss_one (ps_ret (pe_ix ix_tup (pv 2) pe_int (fun _ _ => rfl))))), ?_⟩
    have nM : (gf l d).lookup ("head_of" : Str) = none := gf_no _ _ (by decide +kernel) (by decide +kernel)
    obtain ⟨dx, vs, h1, h2, h3, h4, h5, h6, h7⟩ := id G
    walk_at "rs rd"
    refine ⟨g, l, d, L, n, rfl, G, fun i k v hn hk hv => ?_, q3⟩
    obtain ⟨s, b, r, rfl⟩ := hL k (List.mem_of_getElem? hk)
    cases hv with
    | tup ea ra =>
      cases ra with
      | cons r1 r2 =>
        cases r1
        cases r2 with
        | cons r2 r3 =>
          walk_at "rs rd"
          refine w_iteN (fun e => ?_) (fun e => ?_)
          · exact q2 i s b r hn hk e
          · subst e
            walk_at "rs rd"
            exact q1 i b r _ hn hk r2
theorem scParts : FnScope ["self", "n", "head"] ["self", "n"] (defScope (sG 9)) := ⟨rfl, rfl, rfl, by decide +kernel, rfl, by decide +kernel, by decide +kernel⟩
theorem ok_parts {f fH : Addr} {fd fdH : FuncData} (F : Fun K "parts_of" "Graph.parts_of" (sG 9) f fd) (T : TxtG P K mg C CT fT CN) (GH : FnOk P w K mg base (L2.CX P w) 2 fH fdH ["self", "n"] (spHead P w C CN)) (bH : Binds K fdH ["self", "n"] []) (mH : Meth K C "head_of" fH) :
    FnOk P w K mg base (L2.CX P w) 3 f fd ["self", "n"] (spParts P w C CN) := by
  refine F.okX scParts (fun vs H Q E h => ?_) (fun cdv A outer s H vs Q E hr h => ?_)
  · obtain ⟨g, l, d, L, n, rfl, _⟩ := h
    rfl
  · obtain ⟨g, l, d, L, n, rfl, G, hL, q1, q2, q3⟩ := h
    have nd := scParts.nd
    refine ⟨_, pss_cons (ps_set (i := 2) nd rfl (Or.inl rfl) (pe_meth (E := E) (pv 0) T.cl mH GH hr bH .nil (passes_call (takes_of rfl rfl rfl rfl) fun _ _ _ _ h => h) (pa_cons (pv 1) pa_nil)))
      (pss_cons (ps_if (pt_cmpR op_eq (pe_ix ix_tup (pv 2) pe_int (fun _ _ => rfl)) pe_str (nomark _)) (pss_one (ps_ret (pe_tup pa_nil))) pss_nil)
      (pss_one (ps_ret (pe_ix ix_tup (pv 2) pe_int (fun _ _ => rfl))))), ?_⟩
    have nM : (gf l d).lookup ("head_of" : Str) = none := gf_no _ _ (by decide +kernel) (by decide +kernel)
    obtain ⟨dx, vs, h1, h2, h3, h4, h5, h6, h7⟩ := id G
    walk_at "rs rd"
    refine ⟨g, l, d, L, n, rfl, G, fun i k v hn hk hv => ?_, q3⟩
    rcases hL k (List.mem_of_getElem? hk) with ⟨b, rfl⟩ | ⟨o, ps, rfl⟩
    · cases hv with
      | tup ea ra =>
        cases ra with
        | cons r1 r2 =>
          cases r1
          cases r2 with
          | cons r2 r3 =>
            cases r3
            walk_at "rs rd"
            refine w_ite (fun e => ?_) (fun e => ?_)
            · refine w_ret (w_tup (w_nil (w_small (by decide) fun p hp => ?_)))
              exact q1 i b hn hk p hp
            · exact absurd rfl e
    · cases hv with
      | tup ea ra =>
        cases ra with
        | cons r1 r2 =>
          cases r1
          cases r2 with
          | cons r2 r3 =>
            cases r2
            cases r3 with
            | cons r3 r4 =>
              cases r4
              walk_at "rs rd"
              refine w_ite (fun e => ?_) (fun e => ?_)
              · exact absurd e (by decide +kernel)
              · walk_at "rs rd"
                exact q2 i o ps _ hn hk r3
theorem nk_depth (k : NestedKey) (h : k.depth ≤ 7) : (NestedKey.tup [.text "letter", k]).depth ≤ 8 := by
  show max _ (max k.depth 0) + 1 ≤ 8
  show max 0 (max k.depth 0) + 1 ≤ 8
  omega
theorem nums_depth : ∀ ns : List Int, NestedKey.depthAll (ns.map .num) = 0
  | [] => rfl
  | n :: r => by
    show max 0 (NestedKey.depthAll (r.map .num)) = 0
    rw [nums_depth r]
    rfl
theorem op_depth (o : Str) (ns : List Int) : (NestedKey.tup [.text "op", .text o, .tup (ns.map .num)]).depth ≤ 8 := by
  show max 0 (max 0 (max (NestedKey.depthAll (ns.map .num) + 1) 0)) + 1 ≤ 8
  rw [nums_depth]
  decide
theorem nums_nk (H : Hp) : ∀ ns : List Int, NKs H (ns.map .num) (ns.map V.int)
  | [] => .nil
  | n :: r => .cons (.num n) (nums_nk H r)
theorem scLet : FnScope ["self", "key"] ["self", "key"] (defScope (sG 3)) := ⟨rfl, rfl, rfl, by decide +kernel, rfl, by decide +kernel, by decide +kernel⟩
theorem ok_let {f fM : Addr} {fd fdM : FuncData} (F : Fun K "letter" "Graph.letter" (sG 3) f fd) (T : TxtG P K mg C CT fT CN) (GM : FnOk P w K mg base (L2.CX P w) 3 fM fdM ["self", "head"] (spNum P w C CT)) (bM : Binds K fdM ["self", "head"] []) (mM : Meth K C "numbered" fM) :
    FnOk P w K mg base (L2.CX P w) 4 f fd ["self", "key"] (spLetter P w C CT) := by
  refine F.okX scLet (fun vs H Q E h => ?_) (fun cdv A outer s H vs Q E hr h => ?_)
  · obtain ⟨g, l, d, L, key, kv, rfl, _⟩ := h
    rfl
  · obtain ⟨g, l, d, L, key, kv, rfl, G, hk, hd, q1, q2, q3⟩ := h
    refine ⟨_, pss_one (ps_ret (pe_meth (E := E) (pv 0) T.cl mM GM hr bM .nil (passes_call (takes_of rfl rfl rfl rfl) fun _ _ _ _ h => h) (pa_cons (pe_tup (pa_cons pe_str (pa_cons (pv 1) pa_nil))) pa_nil))), ?_⟩
    have nM : (gf l d).lookup ("numbered" : Str) = none := gf_no _ _ (by decide +kernel) (by decide +kernel)
    obtain ⟨dx, vs, h1, h2, h3, h4, h5, h6, h7⟩ := id G
    walk_at "rs rd"
    rename_i p hp
    have f1 : Fm [] H (upd H p (.tup [.str "letter", kv])) := Fm.new hp
    have G1 := G.same f1
    have tp := G.tp f1 (fun _ h => (List.not_mem_nil h).elim)
    refine ⟨g, p, l, d, L, .tup [.text "letter", key], rfl, G1, .tup upd_same (.cons (.text _) (.cons (NK.mono tp _ _ hk) .nil)), nk_depth key hd, fun i hi => q1 i _ hi G1 f1, fun hn hl H' G' f' => q2 hn hl H' G' (f1.nil.trans f'), fun hn hl dd hdd => ?_⟩
    have f2 : Fm [] H (upd (upd H p (.tup [.str "letter", kv])) dd (.xd (tlD (.str "nodes") (.int 3000)))) := f1.thenNew hdd
    exact q3 hn hl dd _ upd_same (f1.none hdd List.not_mem_nil) (G.same f2) f2
theorem scNode : FnScope ["self", "op", "parts", "part"] ["self", "op", "parts"] (defScope (sG 4)) := ⟨rfl, rfl, rfl, by decide +kernel, rfl, by decide +kernel, by decide +kernel⟩
theorem ok_node {f fM fH : Addr} {fd fdM fdH : FuncData} (F : Fun K "node" "Graph.node" (sG 4) f fd) (T : TxtG P K mg C CT fT CN) (GM : FnOk P w K mg base (L2.CX P w) 3 fM fdM ["self", "head"] (spNum P w C CT)) (bM : Binds K fdM ["self", "head"] []) (mM : Meth K C "numbered" fM)
    (GH : FnOk P w K mg base (L2.CX P w) 2 fH fdH ["self", "n"] (spHead P w C CN)) (bH : Binds K fdH ["self", "n"] []) (mH : Meth K C "head_of" fH) :
    FnOk P w K mg base (L2.CX P w) 4 f fd ["self", "op", "parts"] (spNode P w C CT CN) := by
  refine F.okX scNode (fun vs H Q E h => ?_) (fun cdv A outer s H vs Q E hr h => ?_)
  · obtain ⟨g, l, d, pp, L, o, ns, rfl, _⟩ := h
    rfl
  · obtain ⟨g, l, d, pp, L, o, ns, rfl, G, hpp, q0, q⟩ := h
    have nd := scNode.nd
    refine ⟨_, pss_cons (ps_for (passes_of rfl) rfl (pi_tup (pv 2)) (pg_name (i := 3) nd rfl (Or.inl rfl)) (pss_one (ps_expr (pe_meth (E := E) (pv 0) T.cl mH GH (hr.mono (by decide)) bH .nil (passes_call (takes_of rfl rfl rfl rfl) fun _ _ _ _ h => h) (pa_cons (pv 3) pa_nil)))))
      (pss_one (ps_ret (pe_meth (E := E) (pv 0) T.cl mM GM hr bM .nil (passes_call (takes_of rfl rfl rfl rfl) fun _ _ _ _ h => h) (pa_cons (pe_tup (pa_cons pe_str (pa_cons (pv 1) (pa_cons (pe_callTy call_tupleT (by rfl) T.tuple (by decide +kernel) (pa_cons (pv 2) pa_nil)) pa_nil)))) pa_nil)))), ?_⟩
    have nM : (gf l d).lookup ("numbered" : Str) = none := gf_no _ _ (by decide +kernel) (by decide +kernel)
    have nH : (gf l d).lookup ("head_of" : Str) = none := gf_no _ _ (by decide +kernel) (by decide +kernel)
    obtain ⟨dx, vs, h1, h2, h3, h4, h5, h6, h7⟩ := id G
    refine w_seq ?_
    refine ⟨_, rfl, pp, rfl, ⟨_, SqT.of hpp⟩, for_tup (K := K) (a := pp) (xs := ns.map V.int) (fun i σ H' => H' = H ∧ (∃ v, σ = [some (.ref g), some (.str o), some (.ref pp), v]) ∧ ∀ n ∈ ns.take i, 0 ≤ n ∧ n < (L.length : Int))
      ⟨rfl, ⟨none, rfl⟩, by simp⟩ (fun i σ H' _ ⟨e, _⟩ => by rw [e]; exact SqT.of hpp) ?_ ?_⟩
    · rintro i x σ H' hx ⟨rfl, ⟨v, rfl⟩, hb⟩
      rw [List.getElem?_map] at hx
      obtain ⟨n, hn, rfl⟩ := Option.map_eq_some_iff.mp hx
      walk_at "rs rd"
      refine ⟨g, l, d, L, n, rfl, G, fun j k v' ej hk hv => ?_, fun bad => q0 ⟨n, List.mem_of_getElem? hn, bad⟩⟩
      refine ⟨rfl, ⟨_, rfl⟩, fun m hm => ?_⟩
      have hi : i < ns.length := (List.getElem?_eq_some_iff.mp hn).1
      rw [List.take_succ, hn] at hm
      rcases List.mem_append.mp hm with hm | hm
      · exact hb m hm
      · have e : m = n := by simpa using hm
        have hj : j < L.length := (List.getElem?_eq_some_iff.mp hk).1
        omega
    · rintro σ H' ⟨rfl, ⟨v, rfl⟩, hb⟩
      have hb' : ∀ n ∈ ns, 0 ≤ n ∧ n < (L.length : Int) := fun n hn => hb n (by rw [List.length_map, List.take_length]; exact hn)
      obtain ⟨q1, q2, q3⟩ := q hb'
      walk_at "rs rd"
      refine ⟨pp, _, rfl, SqT.of hpp, ?_⟩
      walk_at "rs rd"
      rename_i p hp
      have f1 : Fm [] H' (upd H' p (.tup [.str "op", .str o, .ref pp])) := Fm.new hp
      have G1 := G.same f1
      have hpp1 : upd H' p (.tup [.str "op", .str o, .ref pp]) pp = some (.tup (ns.map V.int)) := f1 _ _ hpp List.not_mem_nil
      refine ⟨g, p, l, d, L, .tup [.text "op", .text o, .tup (ns.map .num)], rfl, G1, .tup upd_same (.cons (.text _) (.cons (.text _) (.cons (.tup hpp1 (nums_nk _ ns)) .nil))), op_depth o ns, fun i hi => q1 i _ hi G1 f1, fun hn hl H' G' f' => q2 hn hl H' G' (f1.nil.trans f'), fun hn hl dd hdd => ?_⟩
      have f2 : Fm [] H' (upd (upd H' p (.tup [.str "op", .str o, .ref pp])) dd (.xd (tlD (.str "nodes") (.int 3000)))) := f1.thenNew hdd
      exact q3 hn hl dd _ upd_same (f1.none hdd List.not_mem_nil) (G.same f2) f2
/-- Graph() -/
def spInit (P : Program) (w : World) (C : Addr) : Sp := fun vs H Q _ => ∃ (g dx : Addr), vs = [.ref g] ∧ H g = some (.ins C dx []) ∧ ∀ l d H', H l = none → H d = none → GraphAt P w C H' g l d [] → Fm [g] H H' → Q .non H'
theorem scInit : FnScope ["self"] ["self"] (defScope (sG 0)) := ⟨rfl, rfl, rfl, by decide +kernel, rfl, by decide +kernel, by decide +kernel⟩
theorem ok_init {f : Addr} {fd : FuncData} (F : Fun K "__init__" "Graph.__init__" (sG 0) f fd) (T : TxtG P K mg C CT fT CN) : FnOk P w K mg base CX0 1 f fd ["self"] (spInit P w C) := by
  refine F.ok scInit (fun vs H Q E h => ?_) (fun cdv A outer s H vs Q E hr h => ?_)
  · obtain ⟨g, dx, rfl, _⟩ := h
    rfl
  · obtain ⟨g, dx, rfl, hg, k⟩ := h
    refine ⟨_, pss_cons (ps_fld (pv 0) (pe_lst pa_nil) rfl) (pss_one (ps_fld (pv 0) pe_nnew rfl)), ?_⟩
    refine ⟨Nat.zero_le _, fun l hl => ?_⟩
    have ngl : g ≠ l := ne_of_none hg hl
    refine ⟨_, rfl, g, C, dx, [], rfl, (by rw [upd_ne ngl]; exact hg), T.cl, T.nH, (by show 0 < 1000; decide), ?_⟩
    intro d hd dd
    have ndg : d ≠ g := fun z => by rw [z, upd_same] at hd; cases hd
    have ndl : d ≠ l := fun z => by rw [z, upd_ne ngl.symm, upd_same] at hd; cases hd
    have hd0 : H d = none := by rw [upd_ne ndg, upd_ne ndl] at hd; exact hd
    refine ⟨_, rfl, g, C, dx, _, rfl, (by rw [upd_ne ndg.symm]; exact upd_same), T.cl, T.nK, (by show 1 < 1000; decide), ?_⟩
    refine k l d _ hl hd0 ⟨dx, [], upd_same, ?_, .nil, ?_, List.nodup_nil, fun _ h => (List.not_mem_nil h).elim, Nat.zero_le _⟩ ?_
    · rw [upd_ne ngl.symm, upd_ne ndl.symm, upd_ne ngl.symm, upd_same]
    · exact dd.frame (fun o eo => by rw [upd_ne ndg]; exact eo) fun b xs eb => by
        rw [upd_ne (fun z => ?_)]
        · exact eb
        · rw [z, upd_ne ndg.symm, upd_same] at eb
          cases eb
    · exact ((((Fm.refl _ _).thenNew hl).thenPut (by simp)).thenNew hd).thenPut (by simp)
end
end Rs

set_option Elab.async false
set_option linter.all false
set_option maxRecDepth 100000
set_option maxHeartbeats 4000000
/-! the law's helpers: _law_some, _law_bag, _law_mixed, _law_alike -/
namespace Rs
open PySem L2 PySem.Spec PyProof.Rows
local macro_rules | `(tactic| walk_at "rs ne") => `(tactic| first | assumption | (apply Ne.symm; assumption) | (apply ne_n1; assumption; walk_at "rs hp") | (apply ne_n2; assumption; walk_at "rs hp"))
local macro_rules | `(tactic| walk_at "rs hp") => `(tactic| first | assumption | exact upd_same | (apply hp_ne; (walk_at "rs ne"); (walk_at "rs hp")))
local macro_rules | `(tactic| walk_at "rs sq") => `(tactic| first | assumption | (apply SqL.of; walk_at "rs hp") | (apply SqT.of; walk_at "rs hp"))
local macro_rules | `(tactic| walk_at "rs sz") => `(tactic| first | decide | (rw [sizeLine_eq]; simp; done) | (rw [sizeLine_eq]; simp; omega) | (rw [sizeLine_eq]; omega))
local macro_rules | `(tactic| walk_at "rs ar") => `(tactic| first | assumption | (show (0 : Int) < _; first | assumption | decide | omega) | exact Or.inr ⟨by decide, by decide⟩ | exact Or.inl ⟨by decide, by decide⟩ | exact Or.inl ⟨by omega, by omega⟩ | exact Or.inr ⟨by omega, by omega⟩ | exact ⟨by decide, by decide, by decide⟩ | exact ⟨by decide, by decide⟩ | exact ⟨by omega, by omega⟩)
local macro_rules | `(tactic| walk_at "rs r1") => `(tactic| with_reducible (first | refine w_var rfl ?_ | refine w_c ?_ | refine w_op ?_ | refine w_un ?_ | refine w_test ?_ | refine w_B ?_ | refine w_bool ?_ | refine w_not ?_ | refine w_cb ?_ | refine w_nil ?_ | refine w_cons ?_ | refine w_asg ?_ | refine w_name ?_ | refine w_seq ?_ | refine w_ret ?_ | refine w_drop ?_ | refine w_next ?_ | refine w_ifS ?_ | refine w_I0 ?_ | refine w_eqI ?_ | refine w_neI ?_ | refine w_int ?_ | refine w_abs ?_ | refine w_sl ?_ | refine w_part ?_ | refine w_intO ?_ | refine w_nopart ?_ | refine w_gsub ?_ | refine w_augS ?_ | refine w_ip ?_ | refine w_lst ?_ | refine w_tup ?_ | refine w_if ?_ | refine w_and ?_ | refine w_or ?_ | refine w_tfld ?_ | refine w_forL ?_ | refine w_forT ?_ | refine w_forR1 ?_ | refine w_forR2 ?_ | refine w_forE ?_ | refine w_lcL ?_ | refine w_lcR1 ?_ | refine w_bm ?_ | refine w_call ?_ | refine w_meth ?_ | refine w_nget ?_ | refine w_nin ?_ | refine w_nput ?_ | refine w_eqS ?_ | refine w_neS ?_))
local macro_rules | `(tactic| walk_at "rs r2") => `(tactic| first | (walk_at "rs r1") | ((with_reducible refine' w_ixL ?h1 ?h2 ?h3); (case h1 => walk_at "rs sq"); (case h2 => first | rfl | exact atI_nat (j := 0) rfl | exact atI_nat (j := 1) rfl | exact atI_nat (j := 2) rfl)) | ((with_reducible refine' w_ixT ?h1 ?h2 ?h3); (case h1 => walk_at "rs sq"); (case h2 => first | rfl | exact atI_nat (j := 0) rfl | exact atI_nat (j := 1) rfl | exact atI_nat (j := 2) rfl)) | ((with_reducible refine' w_cutL ?h1 ?_); (case h1 => walk_at "rs sq"); intro q hq) | ((with_reducible refine' w_cat ?h1 ?h2 ?h3 ?_); (case h1 => walk_at "rs hp"); (case h2 => walk_at "rs hp"); (case h3 => walk_at "rs sz"); intro q hq) | ((with_reducible refine' w_small ?h1 ?_); (case h1 => exact Nat.le_of_ble_eq_true rfl); intro q hq) | ((with_reducible refine' w_setL ?h1 ?h2 ?_); (case h1 => walk_at "rs hp"); (case h2 => rfl)) | ((with_reducible refine' w_getL ?h0 ?h1 ?h2 ?_); (case h0 => rfl); (case h1 => walk_at "rs sq"); (case h2 => rfl)) | ((with_reducible refine' w_lenL ?h1 ?_); (case h1 => walk_at "rs sq")) | ((with_reducible refine' w_lenT ?h1 ?_); (case h1 => walk_at "rs sq")) | ((with_reducible refine' w_fld ?h1 ?h2 ?h3 ?h4 ?_); (case h1 => assumption); (case h2 => assumption); (case h3 => walk_at "rs hp"); (case h4 => assumption)) | ((with_reducible refine' w_methAt ?h1 ?h2 ?_); (case h1 => walk_at "rs hp"); (case h2 => assumption)) | ((with_reducible refine' w_tyL ?h1 ?_); (case h1 => walk_at "rs sq")) | ((with_reducible refine' w_append ?h1 ?h2 ?_); (case h1 => walk_at "rs hp"); (case h2 => assumption)) | ((with_reducible refine' w_I ?h1 ?_); (case h1 => walk_at "rs ar")))
local macro_rules | `(tactic| walk_at "rs rd") => `(tactic| repeat (walk_at "rs r2"))
abbrev sMixed : Stmt := top 12
abbrev sAlike : Stmt := top 17
section
variable {P : Program} {w : World} {K : PySem.W.Frag} {mg : Str → Option Value} {base : Heap}
theorem scSome : FnScope ["bag", "things"] ["bag", "things"] (defScope sSome) := ⟨rfl, rfl, rfl, by decide +kernel, rfl, by decide +kernel, by decide +kernel⟩
theorem ok_some {f fT : Addr} {fd fdT : FuncData} (F : Fun K "_law_some" "_law_some" sSome f fd) (T : TxtB K mg) (mT : mg "_law_take" = some (.ref fT)) (kT : PySem.W.keepIn K (.ref fT) = true) (bT : Binds K fdT ["bag", "many"] [])
    (GT : FnOk P w K mg base CX0 1 fT fdT ["bag", "many"] spTake) : FnOk P w K mg base CX0 2 f fd ["bag", "things"] (spSome K) := by
  refine F.ok scSome (fun vs H Q E h => ?_) (fun cdv A outer s H vs Q E hr h => ?_)
  · obtain ⟨b, c, p, xs, rfl, _⟩ := h
    rfl
  · obtain ⟨b, c, p, xs, rfl, hne, hlen, hpb, hs, B, k⟩ := h
    refine ⟨_, pss_one (ps_ret (pe_ix ix_seq (pv 1) (pe_call GT hr rfl mT kT bT .nil pass0 (pa_cons (pv 0) (pa_cons (pe_callB c_len (by rfl) T.len PySem.boot_len (pa_cons (pv 1) pa_nil)) pa_nil))) (fun _ _ => rfl))), ?_⟩
    walk_at "rs rd"
    have h0 : 0 < xs.length := List.length_pos_iff.mpr hne
    refine ⟨p, xs, rfl, hs, ?_⟩
    walk_at "rs rd"
    refine ⟨b, c, _, rfl, by omega, by omega, B, fun v H' v0 v1 B' f' => ?_⟩
    obtain ⟨j, rfl⟩ : ∃ j : Nat, v = (j : Int) := ⟨v.toNat, by omega⟩
    have hj : j < xs.length := by omega
    have e := List.getElem?_eq_getElem hj
    have hm : xs[j] ∈ xs := List.getElem_mem hj
    rcases hs with hs | hs
    · exact .inl (w_ixL (f'.seqL hs (not_in1 hpb)) (atI_nat e) (k _ _ hm B' f'))
    · exact .inr (.inl (w_ixT (f'.seqT hs (not_in1 hpb)) (atI_nat e) (k _ _ hm B' f')))
def spBag (K : PySem.W.Frag) : Sp := fun vs H Q _ => ∃ (a : Addr) (ns : List Int), vs = [.ref a] ∧ SqL K H a (ns.map V.int) ∧ ns.length ≤ 63 ∧ ∀ b c H', H b = none → H c = none → Bag H' b c → Fm [] H H' → Q (.ref b) H'
theorem scBag : FnScope ["script", "cell"] ["script"] (defScope sBag) := ⟨rfl, rfl, rfl, by decide +kernel, rfl, by decide +kernel, by decide +kernel⟩
theorem ok_bag {f : Addr} {fd : FuncData} (F : Fun K "_law_bag" "_law_bag" sBag f fd) (mA : mg "abs" = none) : FnOk P w K mg base CX0 1 f fd ["script"] (spBag K) := by
  refine F.ok scBag (fun vs H Q E h => ?_) (fun cdv A outer s H vs Q E hr h => ?_)
  · obtain ⟨a, ns, rfl, _⟩ := h
    rfl
  · obtain ⟨a, ns, rfl, hs, hlen, k⟩ := h
    refine ⟨_, pss_one (ps_ret (pe_lst (pa_cons pe_int (pa_cons pe_int (pa_cons pe_int (pa_cons (pe_lc (own := [("cell", 1)]) (g := gName 1) (tt := tYes) rfl scBag.nd (pi_list (pe_slice sl_list (pv 0) po_none (po_some pe_int))) (blkOk_by (N := ["script", "cell"]) (sc := defScope sBag) (by decide +kernel))
      (fun _ _ _ _ _ => pg_name (i := 1) scBag.nd rfl (Or.inl rfl)) (fun _ _ _ _ _ => pts_nil) (fun _ _ _ _ _ => pe_callB c_abs (by rfl) mA (by decide +kernel) (pa_cons (pv 1) pa_nil))) pa_nil)))))), ?_⟩
    walk_at "rs rd"
    rename_i q hq
    refine ⟨_, rfl, ⟨_, SqL.of upd_same⟩, fun c hc => ?_⟩
    have hcq : c ≠ q := fun z => by rw [z, upd_same] at hc; cases hc
    have hc0 : H c = none := by rw [upd_ne hcq] at hc; exact hc
    let xs : List V := cutV (ns.map V.int) none (some 63)
    have hxs : xs.length ≤ 63 := Nat.le_trans (cutV_len _ _ _) (by rw [List.length_map]; exact hlen)
    refine lc_it (walk_list (xs := xs)) (fun i H' => ∃ ms : List Int, ms.length = i ∧ (∀ n ∈ ms, 0 ≤ n) ∧ H' c = some (.lst (ms.map V.int)) ∧ H' q = some (.lst xs) ∧ Fm [] H H')
      ⟨[], rfl, by simp, upd_same, by rw [upd_ne hcq.symm]; exact upd_same, (Fm.new hq).thenOwn hc0⟩ (fun i H' _ ⟨ms, m1, m2, m3, m4, m5⟩ => SqL.of m4) ?_ ?_
    · rintro i x H1 H' hi ⟨ms, e1, e2, e3, e4, e5⟩ ⟨rfl, hx⟩
      obtain ⟨n, hn, rfl⟩ := List.mem_map.mp (cutV_mem (List.mem_of_getElem? hx))
      refine w_name ⟨rfl, w_yes ?_⟩
      walk_at "rs rd"
      refine ⟨_, e3, by rw [List.length_map, sizeLine_eq]; omega, ms ++ [if n < 0 then -n else n], by simp [e1], fun m hm => ?_, by simp [upd_same], by rw [upd_ne hcq.symm]; exact e4, e5.thenOwn hc0⟩
      rcases List.mem_append.mp hm with hm | hm
      · exact e2 m hm
      · rw [List.mem_singleton] at hm
        subst hm
        split <;> omega
    · rintro H' ⟨ms, e1, e2, e3, e4, e5⟩
      walk_at "rs rd"
      rename_i b hb
      have hb0 : H b = none := e5.none hb List.not_mem_nil
      refine k b c _ hb0 hc0 ⟨0, 1234567891, 0, ms, upd_same, by decide, by decide, ?_, e2, by omega⟩ (e5.thenNew hb)
      rw [upd_ne (fun z => by rw [← z, e3] at hb; cases hb)]
      exact e3
end
end Rs

set_option Elab.async false
set_option linter.all false
set_option maxRecDepth 100000
set_option maxHeartbeats 4000000
/-! _law_alike: repr and == of small data -/
namespace Rs
open PySem L2 PySem.Spec PyProof.Rows PySem.PyData
local macro_rules | `(tactic| walk_at "rs ne") => `(tactic| first | assumption | (apply Ne.symm; assumption) | (apply ne_n1; assumption; walk_at "rs hp") | (apply ne_n2; assumption; walk_at "rs hp"))
local macro_rules | `(tactic| walk_at "rs hp") => `(tactic| first | assumption | exact upd_same | (apply hp_ne; (walk_at "rs ne"); (walk_at "rs hp")))
local macro_rules | `(tactic| walk_at "rs sq") => `(tactic| first | assumption | (apply SqL.of; walk_at "rs hp") | (apply SqT.of; walk_at "rs hp"))
local macro_rules | `(tactic| walk_at "rs sz") => `(tactic| first | decide | (rw [sizeLine_eq]; simp; done) | (rw [sizeLine_eq]; simp; omega) | (rw [sizeLine_eq]; omega))
local macro_rules | `(tactic| walk_at "rs ar") => `(tactic| first | assumption | (show (0 : Int) < _; first | assumption | decide | omega) | exact Or.inr ⟨by decide, by decide⟩ | exact Or.inl ⟨by decide, by decide⟩ | exact Or.inl ⟨by omega, by omega⟩ | exact Or.inr ⟨by omega, by omega⟩ | exact ⟨by decide, by decide, by decide⟩ | exact ⟨by decide, by decide⟩ | exact ⟨by omega, by omega⟩)
local macro_rules | `(tactic| walk_at "rs r1") => `(tactic| with_reducible (first | refine w_var rfl ?_ | refine w_c ?_ | refine w_op ?_ | refine w_un ?_ | refine w_test ?_ | refine w_B ?_ | refine w_bool ?_ | refine w_not ?_ | refine w_cb ?_ | refine w_nil ?_ | refine w_cons ?_ | refine w_asg ?_ | refine w_name ?_ | refine w_seq ?_ | refine w_ret ?_ | refine w_drop ?_ | refine w_next ?_ | refine w_ifS ?_ | refine w_I0 ?_ | refine w_eqI ?_ | refine w_neI ?_ | refine w_int ?_ | refine w_abs ?_ | refine w_sl ?_ | refine w_part ?_ | refine w_intO ?_ | refine w_nopart ?_ | refine w_gsub ?_ | refine w_augS ?_ | refine w_ip ?_ | refine w_lst ?_ | refine w_tup ?_ | refine w_if ?_ | refine w_and ?_ | refine w_or ?_ | refine w_tfld ?_ | refine w_forL ?_ | refine w_forT ?_ | refine w_forR1 ?_ | refine w_forR2 ?_ | refine w_forE ?_ | refine w_lcL ?_ | refine w_lcR1 ?_ | refine w_bm ?_ | refine w_call ?_ | refine w_meth ?_ | refine w_nget ?_ | refine w_nin ?_ | refine w_nput ?_ | refine w_eqS ?_ | refine w_neS ?_))
local macro_rules | `(tactic| walk_at "rs r2") => `(tactic| first | (walk_at "rs r1") | ((with_reducible refine' w_ixL ?h1 ?h2 ?h3); (case h1 => walk_at "rs sq"); (case h2 => first | rfl | exact atI_nat (j := 0) rfl | exact atI_nat (j := 1) rfl | exact atI_nat (j := 2) rfl)) | ((with_reducible refine' w_ixT ?h1 ?h2 ?h3); (case h1 => walk_at "rs sq"); (case h2 => first | rfl | exact atI_nat (j := 0) rfl | exact atI_nat (j := 1) rfl | exact atI_nat (j := 2) rfl)) | ((with_reducible refine' w_cutL ?h1 ?_); (case h1 => walk_at "rs sq"); intro q hq) | ((with_reducible refine' w_cat ?h1 ?h2 ?h3 ?_); (case h1 => walk_at "rs hp"); (case h2 => walk_at "rs hp"); (case h3 => walk_at "rs sz"); intro q hq) | ((with_reducible refine' w_small ?h1 ?_); (case h1 => exact Nat.le_of_ble_eq_true rfl); intro q hq) | ((with_reducible refine' w_setL ?h1 ?h2 ?_); (case h1 => walk_at "rs hp"); (case h2 => rfl)) | ((with_reducible refine' w_getL ?h0 ?h1 ?h2 ?_); (case h0 => rfl); (case h1 => walk_at "rs sq"); (case h2 => rfl)) | ((with_reducible refine' w_lenL ?h1 ?_); (case h1 => walk_at "rs sq")) | ((with_reducible refine' w_lenT ?h1 ?_); (case h1 => walk_at "rs sq")) | ((with_reducible refine' w_fld ?h1 ?h2 ?h3 ?h4 ?_); (case h1 => assumption); (case h2 => assumption); (case h3 => walk_at "rs hp"); (case h4 => assumption)) | ((with_reducible refine' w_methAt ?h1 ?h2 ?_); (case h1 => walk_at "rs hp"); (case h2 => assumption)) | ((with_reducible refine' w_tyL ?h1 ?_); (case h1 => walk_at "rs sq")) | ((with_reducible refine' w_append ?h1 ?h2 ?_); (case h1 => walk_at "rs hp"); (case h2 => assumption)) | ((with_reducible refine' w_I ?h1 ?_); (case h1 => walk_at "rs ar")))
local macro_rules | `(tactic| walk_at "rs rd") => `(tactic| repeat (walk_at "rs r2"))
mutual
/-- small data: whole numbers below 10 ^ 12, short texts, no dict -/
def okD : PyData → Bool
  | .none | .bool _ => true
  | .int i => decide (i.natAbs < 10 ^ 12)
  | .str x => strOk x && decide (x.cps.size ≤ 1000)
  | .list xs | .tuple xs => okDs xs
  | .dict _ => false
def okDs : List PyData → Bool
  | [] => true
  | x :: xs => okD x && okDs xs
end
mutual
/-- how many things stand in it -/
def cnt : PyData → Nat
  | .none | .bool _ | .int _ | .str _ | .dict _ => 1
  | .list xs | .tuple xs => cnts xs + 1
def cnts : List PyData → Nat
  | [] => 0
  | x :: xs => cnt x + cnts xs
end
mutual
theorem okD_lay : ∀ d : PyData, okD d = true → d.canLay0 = true
  | .none, _ => rfl
  | .bool _, _ => rfl
  | .int _, _ => rfl
  | .str x, h => by
    have q : (strOk x && decide (x.cps.size ≤ 1000)) = true := h
    rw [Bool.and_eq_true] at q
    exact q.1
  | .list xs, h => okDs_lay xs h
  | .tuple xs, h => okDs_lay xs h
  | .dict _, h => by cases h
theorem okDs_lay : ∀ xs : List PyData, okDs xs = true → canLayAll0 xs = true
  | [], _ => rfl
  | x :: xs, h => by
    have q : (okD x && okDs xs) = true := h
    rw [Bool.and_eq_true] at q
    show (canLay0 x && canLayAll0 xs) = true
    rw [okD_lay x q.1, okDs_lay xs q.2]
    rfl
end
mutual
theorem okD_short : ∀ d : PyData, okD d = true → d.intsShort 13 = true
  | .none, _ => rfl
  | .bool _, _ => rfl
  | .int i, h => decide_eq_true (shown_int_le (of_decide_eq_true (show decide (i.natAbs < 10 ^ 12) = true from h)))
  | .str x, _ => rfl
  | .list xs, h => okDs_short xs h
  | .tuple xs, h => okDs_short xs h
  | .dict _, h => by cases h
theorem okDs_short : ∀ xs : List PyData, okDs xs = true → intsShortAll 13 xs = true
  | [], _ => rfl
  | x :: xs, h => by
    have q : (okD x && okDs xs) = true := h
    rw [Bool.and_eq_true] at q
    show (intsShort 13 x && intsShortAll 13 xs) = true
    rw [okD_short x q.1, okDs_short xs q.2]
    rfl
end
theorem small_log {i : Int} (h : i.natAbs < 10 ^ 12) : i.natAbs.log2 < 40 := by
  by_cases z : i.natAbs = 0
  · rw [z]; decide
  · exact (Nat.log2_lt z).mpr (Nat.lt_of_lt_of_le h (by decide))
mutual
theorem okD_show : ∀ d : PyData, okD d = true → d.showable = true
  | .none, _ => rfl
  | .bool _, _ => rfl
  | .int i, h => decide_eq_true (Nat.lt_trans (small_log (of_decide_eq_true (show decide (i.natAbs < 10 ^ 12) = true from h))) (by decide))
  | .str x, _ => rfl
  | .list xs, h => okDs_show xs h
  | .tuple xs, h => okDs_show xs h
  | .dict _, h => by cases h
theorem okDs_show : ∀ xs : List PyData, okDs xs = true → showableAll xs = true
  | [], _ => rfl
  | x :: xs, h => by
    have q : (okD x && okDs xs) = true := h
    rw [Bool.and_eq_true] at q
    show (showable x && showableAll xs) = true
    rw [okD_show x q.1, okDs_show xs q.2]
    rfl
end
mutual
theorem okD_weight : ∀ d : PyData, okD d = true → d.weight + 1 ≤ 1003 * cnt d
  | .none, _ => by decide
  | .bool _, _ => by show 0 + 1 ≤ 1003 * 1; decide
  | .int i, h => by
    have q := small_log (of_decide_eq_true (show decide (i.natAbs < 10 ^ 12) = true from h))
    show (if i == 0 then 0 else i.natAbs.log2 + 1) + 1 ≤ 1003 * 1
    split <;> omega
  | .str x, h => by
    have q : (strOk x && decide (x.cps.size ≤ 1000)) = true := h
    rw [Bool.and_eq_true, decide_eq_true_eq] at q
    show x.cps.size + 1 ≤ 1003 * 1
    omega
  | .list xs, h => by
    have q := okDs_weight xs h
    show weightAll xs + 1 ≤ 1003 * (cnts xs + 1)
    omega
  | .tuple xs, h => by
    have q := okDs_weight xs h
    show weightAll xs + 1 ≤ 1003 * (cnts xs + 1)
    omega
  | .dict _, h => by cases h
theorem okDs_weight : ∀ xs : List PyData, okDs xs = true → weightAll xs ≤ 1003 * cnts xs
  | [], _ => Nat.zero_le _
  | x :: xs, h => by
    have q : (okD x && okDs xs) = true := h
    rw [Bool.and_eq_true] at q
    have q1 := okD_weight x q.1
    have q2 := okDs_weight xs q.2
    show weight x + 1 + weightAll xs ≤ 1003 * (cnt x + cnts xs)
    omega
end
/-- data that repr and == may be asked of -/
structure Good (d : PyData) : Prop where
  ok : okD d = true
  deep : d.depth ≤ 60
  light : d.weight ≤ 2 ^ 20
theorem Good.few {d : PyData} (h : okD d = true) (h2 : d.depth ≤ 60) (h3 : cnt d ≤ 1000) : Good d := ⟨h, h2, by have := okD_weight d h; omega⟩
theorem okDs_ints {fs : List Int} (h : ∀ p ∈ fs, p.natAbs < 10 ^ 12) : okDs (fs.map .int) = true ∧ PyData.depthAll (fs.map .int) ≤ 1 ∧ weightAll (fs.map .int) ≤ 42 * fs.length := by
  induction fs with
  | nil => exact ⟨rfl, Nat.zero_le _, Nat.zero_le _⟩
  | cons n r ih =>
    obtain ⟨i1, i2, i3⟩ := ih fun q hq => h q (List.mem_cons_of_mem _ hq)
    have h1 := h n List.mem_cons_self
    refine ⟨?_, ?_, ?_⟩
    · show (decide (n.natAbs < 10 ^ 12) && okDs (r.map .int)) = true
      rw [i1, decide_eq_true h1]
      rfl
    · show max (PyData.depth (.int n)) (PyData.depthAll (r.map .int)) ≤ 1
      have : PyData.depth (.int n) = 0 := rfl
      omega
    · have q := small_log h1
      show (if n == 0 then 0 else n.natAbs.log2 + 1) + 1 + weightAll (r.map .int) ≤ 42 * (r.length + 1)
      split <;> omega
theorem Good.ints {fs : List Int} (h : ∀ p ∈ fs, p.natAbs < 10 ^ 12) (hl : fs.length ≤ 20000) : Good (.tuple (fs.map .int)) ∧ Good (.list (fs.map .int)) := by
  obtain ⟨h1, h2, h3⟩ := okDs_ints h
  have hd : PyData.depthAll (fs.map .int) + 1 ≤ 60 := by omega
  have hw : weightAll (fs.map .int) ≤ 2 ^ 20 := by omega
  exact ⟨⟨h1, hd, hw⟩, ⟨h1, hd, hw⟩⟩
theorem Good.int {i : Int} (h : i.natAbs < 10 ^ 12) : Good (.int i) := by
  have q := small_log h
  refine ⟨decide_eq_true h, Nat.zero_le 60, ?_⟩
  show (if i == 0 then 0 else i.natAbs.log2 + 1) ≤ 2 ^ 20
  split <;> omega
theorem Good.lay {d : PyData} (h : Good d) : layable0 d = true := by
  have dp := h.deep
  unfold layable0
  rw [okD_lay d h.ok, decide_eq_true (show depth d ≤ 64 by omega), decide_eq_true h.light]
  rfl
theorem Good.text {d : PyData} (h : Good d) : d.shown.length ≤ sizeLine := shown_fits_of_layable0 (B := 13) (by decide) (by decide) h.lay (okD_short d h.ok)
theorem Good.shaped {d : PyData} (h : Good d) : SeqAt.shaped d = true := by
  have dp := h.deep
  unfold SeqAt.shaped
  rw [okD_lay d h.ok, decide_eq_true (show d.depth ≤ 64 by omega)]
  rfl
theorem Good.eqv {d : PyData} (h : Good d) : PyData.eqv d d = true := SeqAt.eqv_refl d (okD_lay d h.ok)
theorem Good.noD {d : PyData} (h : Good d) : d.hasDict = false := hasDict_of_layable h.lay
/-- repr(x) of small data -/
def reprOf : PyData → Str
  | .int i => toString i
  | d => d.shown
def rRepr (K : PySem.W.Frag) : List V → Hp → VK → Prop := fun xs H Q => ∃ x d, xs = [x] ∧ Dp K H x d ∧ Good d ∧ (∀ b, d ≠ .bool b) ∧ (d ≠ PyData.none) ∧ (∀ s, d ≠ .str s) ∧ Q (.str (reprOf d)) H
theorem c_repr {X : Cx} (hgd : X.A.guards = some []) (hu : X.A.units + 128 < cLine) : CallR X (.builtin "repr") (rRepr X.K) := by
  intro pins s σ H xs us Q I r h
  obtain ⟨x, d, rfl, hd, gd, n1, n2, n3, q⟩ := h
  cases hd with
  | non => exact absurd rfl n2
  | bl b => exact absurd rfl (n1 b)
  | str y => exact absurd rfl (n3 y)
  | int i => exact SkE.call_repr_int pins s σ H _ us Q I r ⟨i, rfl, Nat.lt_trans (small_log (of_decide_eq_true (show decide (i.natAbs < 10 ^ 12) = true from gd.ok))) (by decide), q⟩
  | lst h1 h2 => exact call_reprD hgd hu pins s σ H _ us Q I r ⟨_, _, rfl, .lst h1 h2, okD_show _ gd.ok, gd.noD, gd.deep, gd.text, q⟩
  | tup h1 h2 => exact call_reprD hgd hu pins s σ H _ us Q I r ⟨_, _, rfl, .tup h1 h2, okD_show _ gd.ok, gd.noD, gd.deep, gd.text, q⟩
theorem w_repr {K : PySem.W.Frag} {x : V} {d : PyData} {H : Hp} {Q : VK} (h1 : Dp K H x d) (g : Good d) (n : (∃ i, d = .int i) ∨ (∃ xs, d = .list xs) ∨ ∃ xs, d = .tuple xs) (k : Q (.str (reprOf d)) H) : rRepr K [x] H Q :=
  ⟨x, d, rfl, h1, g, fun b z => by rcases n with ⟨_, n⟩ | ⟨_, n⟩ | ⟨_, n⟩ <;> (rw [n] at z; cases z), fun z => by rcases n with ⟨_, n⟩ | ⟨_, n⟩ | ⟨_, n⟩ <;> (rw [n] at z; cases z), fun s z => by rcases n with ⟨_, n⟩ | ⟨_, n⟩ | ⟨_, n⟩ <;> (rw [n] at z; cases z), k⟩
def spAlike (K : PySem.W.Frag) : Sp := fun vs H Q _ => ∃ (x y : V) (d : PyData), vs = [x, y] ∧ Dp K H x d ∧ Dp K H y d ∧ Good d ∧ ((∃ i, d = .int i) ∨ (∃ xs, d = .list xs) ∨ ∃ xs, d = .tuple xs) ∧ Q (.bl true) H
section
variable {P : Program} {w : World} {K : PySem.W.Frag} {mg : Str → Option Value} {base : Heap}
theorem scAlike : FnScope ["found", "due"] ["found", "due"] (defScope sAlike) := ⟨rfl, rfl, rfl, by decide +kernel, rfl, by decide +kernel, by decide +kernel⟩
theorem ok_alike {f : Addr} {fd : FuncData} (F : Fun K "_law_alike" "_law_alike" sAlike f fd) (mR : mg "repr" = Option.none) : FnG P w K mg base CX0 1 f fd ["found", "due"] (spAlike K) := by
  refine okG F scAlike (fun vs H Q E h => ?_) (fun cdv A outer s H vs Q E hgd hr h => ?_)
  · obtain ⟨x, y, d, rfl, _⟩ := h
    rfl
  · obtain ⟨x, y, d, rfl, h1, h2, gd, n, k⟩ := h
    have hu : (A.deeper (envOfC "_law_alike" (defScope sAlike) s.heap.objs.size f cdv)).units + 128 < cLine := by
      have := hr.un
      omega
    refine ⟨_, pss_one (ps_ret (pe_and (pe_cmpR op_eq (pe_callB (c_repr hgd hu) (by rfl) mR (by decide +kernel) (pa_cons (pv 0) pa_nil)) (pe_callB (c_repr hgd hu) (by rfl) mR (by decide +kernel) (pa_cons (pv 1) pa_nil)) (nomark _)) (pe_one (pe_cmpR (op_eqD hr.units) (pv 0) (pv 1) (nomark _))))), ?_⟩
    refine w_ret (w_andV (w_op (w_cb (w_cons (w_var rfl (w_nil (w_repr h1 gd n (w_cb (w_cons (w_var rfl (w_nil (w_repr h2 gd n (w_eqS ?_)))))))))))))
    refine w_bool ?_
    rw [decide_eq_true rfl, if_pos rfl]
    refine w_op (w_var rfl (w_var rfl ⟨d, d, h1, h2, gd.shaped, gd.shaped, ?_⟩))
    rw [gd.eqv]
    exact k
end
mutual
def toPy : NestedKey → PyData
  | .none => .none
  | .num i => .int i
  | .text x => .str x
  | .tup ks => .tuple (toPys ks)
def toPys : List NestedKey → List PyData
  | [] => []
  | k :: ks => toPy k :: toPys ks
end
mutual
theorem NK.dp {K : PySem.W.Frag} {H : Hp} : ∀ (k : NestedKey) (v : V), NK H k v → Dp K H v (toPy k)
  | .none, _, h => by cases h; exact .non
  | .num i, _, h => by cases h; exact .int i
  | .text x, _, h => by cases h; exact .str x
  | .tup ks, _, h => by
    cases h with
    | tup e r => exact .tup (SqT.of e) (NKs.dp ks _ r)
theorem NKs.dp {K : PySem.W.Frag} {H : Hp} : ∀ (ks : List NestedKey) (vs : List V), NKs H ks vs → DpAll K H vs (toPys ks)
  | [], _, h => by cases h; exact .nil
  | k :: ks, _, h => by
    cases h with
    | cons a r => exact .cons (NK.dp k _ a) (NKs.dp ks _ r)
end
end Rs

set_option Elab.async false
set_option linter.all false
set_option maxRecDepth 100000
set_option maxHeartbeats 4000000
/-! built_marks -/
namespace Rs
open PySem L2 PySem.Spec PyProof.Rows
local macro_rules | `(tactic| walk_at "rs ne") => `(tactic| first | assumption | (apply Ne.symm; assumption) | (apply ne_n1; assumption; walk_at "rs hp") | (apply ne_n2; assumption; walk_at "rs hp"))
local macro_rules | `(tactic| walk_at "rs hp") => `(tactic| first | assumption | exact upd_same | (apply hp_ne; (walk_at "rs ne"); (walk_at "rs hp")))
local macro_rules | `(tactic| walk_at "rs sq") => `(tactic| first | assumption | (apply SqL.of; walk_at "rs hp") | (apply SqT.of; walk_at "rs hp"))
local macro_rules | `(tactic| walk_at "rs sz") => `(tactic| first | decide | (rw [sizeLine_eq]; simp; done) | (rw [sizeLine_eq]; simp; omega) | (rw [sizeLine_eq]; omega))
local macro_rules | `(tactic| walk_at "rs ar") => `(tactic| first | assumption | (show (0 : Int) < _; first | assumption | decide | omega) | exact Or.inr ⟨by decide, by decide⟩ | exact Or.inl ⟨by decide, by decide⟩ | exact Or.inl ⟨by omega, by omega⟩ | exact Or.inr ⟨by omega, by omega⟩ | exact ⟨by decide, by decide, by decide⟩ | exact ⟨by decide, by decide⟩ | exact ⟨by omega, by omega⟩)
local macro_rules | `(tactic| walk_at "rs r1") => `(tactic| with_reducible (first | refine w_var rfl ?_ | refine w_c ?_ | refine w_op ?_ | refine w_un ?_ | refine w_test ?_ | refine w_B ?_ | refine w_bool ?_ | refine w_not ?_ | refine w_cb ?_ | refine w_nil ?_ | refine w_cons ?_ | refine w_asg ?_ | refine w_name ?_ | refine w_seq ?_ | refine w_ret ?_ | refine w_drop ?_ | refine w_next ?_ | refine w_ifS ?_ | refine w_I0 ?_ | refine w_eqI ?_ | refine w_neI ?_ | refine w_int ?_ | refine w_abs ?_ | refine w_sl ?_ | refine w_part ?_ | refine w_intO ?_ | refine w_nopart ?_ | refine w_gsub ?_ | refine w_augS ?_ | refine w_ip ?_ | refine w_lst ?_ | refine w_tup ?_ | refine w_if ?_ | refine w_and ?_ | refine w_or ?_ | refine w_tfld ?_ | refine w_forL ?_ | refine w_forT ?_ | refine w_forR1 ?_ | refine w_forR2 ?_ | refine w_forE ?_ | refine w_lcL ?_ | refine w_lcR1 ?_ | refine w_bm ?_ | refine w_call ?_ | refine w_meth ?_ | refine w_nget ?_ | refine w_nin ?_ | refine w_nput ?_ | refine w_eqS ?_ | refine w_neS ?_))
local macro_rules | `(tactic| walk_at "rs r2") => `(tactic| first | (walk_at "rs r1") | ((with_reducible refine' w_ixL ?h1 ?h2 ?h3); (case h1 => walk_at "rs sq"); (case h2 => first | rfl | exact atI_nat (j := 0) rfl | exact atI_nat (j := 1) rfl | exact atI_nat (j := 2) rfl)) | ((with_reducible refine' w_ixT ?h1 ?h2 ?h3); (case h1 => walk_at "rs sq"); (case h2 => first | rfl | exact atI_nat (j := 0) rfl | exact atI_nat (j := 1) rfl | exact atI_nat (j := 2) rfl)) | ((with_reducible refine' w_cutL ?h1 ?_); (case h1 => walk_at "rs sq"); intro q hq) | ((with_reducible refine' w_cat ?h1 ?h2 ?h3 ?_); (case h1 => walk_at "rs hp"); (case h2 => walk_at "rs hp"); (case h3 => walk_at "rs sz"); intro q hq) | ((with_reducible refine' w_small ?h1 ?_); (case h1 => exact Nat.le_of_ble_eq_true rfl); intro q hq) | ((with_reducible refine' w_setL ?h1 ?h2 ?_); (case h1 => walk_at "rs hp"); (case h2 => rfl)) | ((with_reducible refine' w_getL ?h0 ?h1 ?h2 ?_); (case h0 => rfl); (case h1 => walk_at "rs sq"); (case h2 => rfl)) | ((with_reducible refine' w_lenL ?h1 ?_); (case h1 => walk_at "rs sq")) | ((with_reducible refine' w_lenT ?h1 ?_); (case h1 => walk_at "rs sq")) | ((with_reducible refine' w_fld ?h1 ?h2 ?h3 ?h4 ?_); (case h1 => assumption); (case h2 => assumption); (case h3 => walk_at "rs hp"); (case h4 => assumption)) | ((with_reducible refine' w_methAt ?h1 ?h2 ?_); (case h1 => walk_at "rs hp"); (case h2 => assumption)) | ((with_reducible refine' w_tyL ?h1 ?_); (case h1 => walk_at "rs sq")) | ((with_reducible refine' w_append ?h1 ?h2 ?_); (case h1 => walk_at "rs hp"); (case h2 => assumption)) | ((with_reducible refine' w_I ?h1 ?_); (case h1 => walk_at "rs ar")))
local macro_rules | `(tactic| walk_at "rs rd") => `(tactic| repeat (walk_at "rs r2"))
abbrev sMarks : Stmt := top 6
def isLet : NestedKey → Bool
  | .tup (.text s :: _) => decide (s = "letter")
  | _ => false
def numOf : NestedKey → Int
  | .num n => n
  | _ => 0
def partsOf : NestedKey → List Int
  | .tup [_, _, .tup ps] => ps.map numOf
  | _ => []
/-- a row that may stand at the place i -/
def RowAt (i : Nat) (k : NestedKey) : Prop := (∃ b, k = .tup [.text "letter", b]) ∨ ∃ (o : Str) (ns : List Int), k = .tup [.text "op", .text o, .tup (ns.map .num)] ∧ ns.length ≤ 10 ∧ ∀ n ∈ ns, 0 ≤ n ∧ n < (i : Int)
def RowsAt (L : List NestedKey) : Prop := ∀ (i : Nat) (k : NestedKey), L[i]? = some k → RowAt i k
def stepM (seen : List Int) (acc : List Bool) (k : NestedKey) : Bool := decide ((acc.length : Int) ∈ seen) || (!isLet k && (partsOf k).all fun p => acc.getD p.toNat false)
def marksL (L : List NestedKey) (seen : List Int) : List Bool := L.foldl (fun acc k => acc ++ [stepM seen acc k]) []
theorem ix_listK {X : Cx} {K : PySem.W.Frag} (h : X.K = K) : IxR X (rIxL K) := by
  subst h
  exact ix_list
theorem nums_vals {H : Hp} : ∀ {ns : List Int} {vs : List V}, NKs H (ns.map .num) vs → vs = ns.map V.int
  | [], _, h => by cases h; rfl
  | n :: r, _, h => by
    cases h with
    | cons a b =>
      cases a
      rw [nums_vals b]
      rfl
structure Txt2 (mg : Str → Option Value) : Prop where
  all : mg "all" = none
  range : mg "range" = none
def spMarks (P : Program) (w : World) (C : Addr) : Sp := fun vs H Q _ => ∃ (g sn l d : Addr) (L : List NestedKey) (seen : List Int), vs = [.ref g, .ref sn] ∧ GraphAt P w C H g l d L ∧ H sn = some (.tup (seen.map V.int)) ∧ (∀ s ∈ seen, 0 ≤ s ∧ s < (L.length : Int)) ∧ RowsAt L ∧
  ∀ q H', H q = none → H' q = some (.lst ((marksL L seen).map V.bl)) → Fm [] H H' → Q (.ref q) H'
theorem w_lcT {K : PySem.W.Frag} {tl te : TE} {g : TG} {tt : TT} {js : List Nat} {σ : L2.St} {H : Hp} {Q : VK} (k : tl σ H fun x H1 => ∃ a, x = .ref a ∧ (∃ xs, SqT K H1 a xs) ∧ LcG (te := te) (Itt K a) g tt js Q σ H1) : tLc (iTup K tl) g tt te js σ H Q := k
def marks0 (n : Nat) (seen : List Int) : List Bool := (List.range n).map fun j : Nat => decide ((j : Int) ∈ seen)
theorem marks0_len (n : Nat) (seen : List Int) : (marks0 n seen).length = n := by simp [marks0]
theorem marks0_nil (n : Nat) : (List.replicate n [V.bl false]).flatten = (marks0 n []).map V.bl := by
  apply List.ext_getElem
  · simp [marks0]
  · intro i h1 h2
    have h3 : (List.replicate n [V.bl false]).flatten = List.replicate n (V.bl false) := by simp
    simp [h3, marks0]
theorem marks0_set {n i : Nat} {seen : List Int} (h : i < n) : ((marks0 n seen).map V.bl).set i (.bl true) = (marks0 n (seen ++ [(i : Int)])).map V.bl := by
  apply List.ext_getElem
  · simp [marks0]
  · intro j h1 h2
    rw [List.getElem_set]
    by_cases e : i = j
    · subst e
      simp [marks0]
    · have : ¬ (j : Int) = (i : Int) := by omega
      simp [marks0, e, this]
theorem marksL_snoc {L : List NestedKey} {k : NestedKey} {seen : List Int} : marksL (L ++ [k]) seen = marksL L seen ++ [stepM seen (marksL L seen) k] := by simp [marksL]
theorem marksL_len {seen : List Int} : ∀ L : List NestedKey, (marksL L seen).length = L.length := fun L => by
  have h : ∀ (L : List NestedKey) (acc : List Bool), (L.foldl (fun acc k => acc ++ [stepM seen acc k]) acc).length = acc.length + L.length := fun L => by
    induction L with
    | nil => intro acc; rfl
    | cons k r ih => intro acc; rw [List.foldl_cons, ih]; simp; omega
  have := h L []
  simpa [marksL] using this
/-- the marks with i nodes done -/
def midM (L : List NestedKey) (seen : List Int) (i : Nat) : List Bool := marksL (L.take i) seen ++ (marks0 L.length seen).drop i
theorem midM_zero {L : List NestedKey} {seen : List Int} : midM L seen 0 = marks0 L.length seen := by simp [midM, marksL]
theorem midM_all {L : List NestedKey} {seen : List Int} : midM L seen L.length = marksL L seen := by
  unfold midM
  rw [List.take_length, List.drop_eq_nil_of_le (by rw [marks0_len]; exact Nat.le_refl _), List.append_nil]
theorem midM_here {L : List NestedKey} {seen : List Int} {i : Nat} (h : i < L.length) : (midM L seen i)[i]? = some (decide ((i : Int) ∈ seen)) := by
  have hl : (marksL (L.take i) seen).length = i := by rw [marksL_len, List.length_take]; omega
  unfold midM
  rw [List.getElem?_append_right (by omega), hl, Nat.sub_self, List.getElem?_drop]
  simp [marks0, h]
theorem midM_ahead {L : List NestedKey} {seen : List Int} {i p : Nat} (h : i ≤ L.length) (hp : p < i) : (midM L seen i)[p]? = some ((marksL (L.take i) seen).getD p false) := by
  have hl : (marksL (L.take i) seen).length = i := by rw [marksL_len, List.length_take]; omega
  unfold midM
  rw [List.getElem?_append_left (by omega), List.getD_eq_getElem?_getD, List.getElem?_eq_getElem (by omega)]
  rfl
theorem midM_succ {L : List NestedKey} {seen : List Int} {i : Nat} {k : NestedKey} (h : L[i]? = some k) : midM L seen (i + 1) = (midM L seen i).set i (stepM seen (marksL (L.take i) seen) k) := by
  have hi := (List.getElem?_eq_some_iff.mp h).1
  have hl : (marksL (L.take i) seen).length = i := by rw [marksL_len, List.length_take]; omega
  unfold midM
  rw [List.take_succ, h]
  show marksL (L.take i ++ [k]) seen ++ _ = _
  rw [marksL_snoc, List.set_append_right _ _ (by omega), hl, Nat.sub_self]
  have hd : (marks0 L.length seen).drop i = (marks0 L.length seen)[i]'(by rw [marks0_len]; exact hi) :: (marks0 L.length seen).drop (i + 1) := List.drop_eq_getElem_cons _
  rw [hd, List.set_cons_zero, List.append_assoc]
  rfl
section
variable {P : Program} {w : World} {K : PySem.W.Frag} {mg : Str → Option Value} {base : Heap} {C CT fT CN : Addr}
theorem scMarks : FnScope ["graph", "nodes", "marks", "node", "part"] ["graph", "nodes"] (defScope sMarks) := ⟨rfl, rfl, rfl, by decide +kernel, rfl, by decide +kernel, by decide +kernel⟩
theorem ok_marks {f fIs fPa fMa : Addr} {fd fdIs fdPa fdMa : FuncData} (F : Fun K "built_marks" "built_marks" sMarks f fd) (T : TxtG P K mg C CT fT CN) (T2 : Txt2 mg)
    (GIs : FnOk P w K mg base (L2.CX P w) 3 fIs fdIs ["self", "n"] (spIsL P w C CN)) (bIs : Binds K fdIs ["self", "n"] []) (mIs : Meth K C "is_letter" fIs)
    (GPa : FnOk P w K mg base (L2.CX P w) 3 fPa fdPa ["self", "n"] (spParts P w C CN)) (bPa : Binds K fdPa ["self", "n"] []) (mPa : Meth K C "parts_of" fPa)
    (GMa : FnOk P w K mg base CX0 1 fMa fdMa ["self"] (spMany P w C)) (bMa : Binds K fdMa ["self"] []) (mMa : Meth K C "many" fMa) : FnOk P w K mg base CX0 4 f fd ["graph", "nodes"] (spMarks P w C) := by
  refine F.ok scMarks (fun vs H Q E h => ?_) (fun cdv A outer s H vs Q E hr h => ?_)
  · obtain ⟨g, sn, l, d, L, seen, rfl, _⟩ := h
    rfl
  · obtain ⟨g, sn, l, d, L, seen, rfl, G, hsn, hse, hR, k⟩ := h
    have nd := scMarks.nd
    refine ⟨_, (pss_cons (ps_set (i := 2) nd rfl (Or.inr rfl) (pe_op op_rep (pe_lst (pa_cons pe_bl pa_nil)) (pe_meth0 (E := E0) (pv 0) T.cl mMa GMa (hr.mono (by decide)) bMa .nil pass0))) (Evl.pss_cut (ps_for PassesOwn.never rfl (pi_tup (pv 1)) (pg_name (i := 3) nd rfl (Or.inl rfl)) (pss_cons (ps_expr (pe_meth (E := E0) (pv 0) T.cl mIs GIs (hr.mono (by decide)) bIs .nil (passes_call LamX.takes0 fun _ _ _ _ h => h) (pa_cons (pv 3) pa_nil))) (pss_one (ps_asg pe_bl (pg_sub (pv 2) (pv 3) set_list))))) (Evl.pss_cut (ps_for PassesOwn.never rfl (pi_range1 rfl T2.range (pa_cons (pe_meth0 (E := E0) (pv 0) T.cl mMa GMa (hr.mono (by decide)) bMa .nil pass0) pa_nil)) (pg_name (i := 3) nd rfl (Or.inl rfl)) (pss_one (ps_if (PW.pt (pw_and (pt_not (pt_val (pe_ix ix_list (pv 2) (pv 3) (fun _ _ => rfl)))) (pw_and1 (pt_not (pt_val (pe_meth (E := E0) (pv 0) T.cl mIs GIs (hr.mono (by decide)) bIs .nil (passes_call LamX.takes0 fun _ _ _ _ h => h) (pa_cons (pv 3) pa_nil))))))) (pss_one (ps_asg (pe_callB (cr_all rfl) (by rfl) T2.all (by decide +kernel) (pa_cons (pe_lc (own := [("part", 4)]) (g := gName 4) (tt := tYes) rfl nd (pi_tup (pe_meth (E := E0) (pv 0) T.cl mPa GPa (hr.mono (by decide)) bPa .nil (passes_call LamX.takes0 fun _ _ _ _ h => h) (pa_cons (pv 3) pa_nil))) (blkOk_by (N := ["graph", "nodes", "marks", "node", "part"]) (sc := defScope sMarks) (by decide +kernel)) (fun _ _ _ _ _ => pg_name (i := 4) nd rfl (Or.inl rfl)) (fun _ _ _ _ _ => pts_nil) (fun _ _ _ _ _ => (pe_ix (ix_listK (K := K) rfl) (pv 2) (pv 4) (fun _ _ => rfl)))) pa_nil)) (pg_sub (pv 2) (pv 3) set_list))) pss_nil))) (pss_one (ps_ret (pv 2)))))), ?_⟩
    have nIs : (gf l d).lookup ("is_letter" : Str) = none := gf_no _ _ (by decide +kernel) (by decide +kernel)
    have nPa : (gf l d).lookup ("parts_of" : Str) = none := gf_no _ _ (by decide +kernel) (by decide +kernel)
    have nMa : (gf l d).lookup ("many" : Str) = none := gf_no _ _ (by decide +kernel) (by decide +kernel)
    obtain ⟨dx, vs0, hg, _⟩ := id G
    walk_at "rs rd"
    rename_i q1 hq1
    have G1 := G.same (Fm.new (o := .lst [.bl false]) hq1 : Fm [] H _)
    have hlen : L.length ≤ 3000 := by
      obtain ⟨_, _, _, _, _, _, _, _, h⟩ := G
      exact h
    refine ⟨g, l, d, L, rfl, G1, ⟨q1, _, _, rfl, rfl, upd_same, by omega, by omega, by rw [sizeLine_eq]; simp; omega, fun q hq => ?_⟩⟩
    rw [Int.toNat_natCast, marks0_nil]
    have F1 : Fm [] H (upd (upd H q1 (.lst [.bl false])) q (.lst ((marks0 L.length []).map V.bl))) := (Fm.new hq1).thenNew hq
    have hq0 : H q = none := (Fm.new hq1 : Fm [] H _).none hq List.not_mem_nil
    generalize hH : upd (upd H q1 (.lst [.bl false])) q (.lst ((marks0 L.length []).map V.bl)) = H1 at F1 ⊢
    have eq1 : H1 q = some (.lst ((marks0 L.length []).map V.bl)) := by rw [← hH]; exact upd_same
    clear hH G1 hq hq1
    refine w_name ?_
    refine w_cut (M := fun σ H' => ∃ v, σ = [some (.ref g), some (.ref sn), some (.ref q), v, none] ∧ H' q = some (.lst ((marks0 L.length seen).map V.bl)) ∧ Fm [] H H') ?_ ?_
    · walk_at "rs rd"
      refine ⟨sn, rfl, ⟨_, SqT.of (F1 _ _ hsn List.not_mem_nil)⟩, for_it (walk_tup (xs := seen.map V.int)) (fun i σ H' => ∃ v, σ = [some (.ref g), some (.ref sn), some (.ref q), v, none] ∧ H' q = some (.lst ((marks0 L.length (seen.take i)).map V.bl)) ∧ Fm [] H H')
        ⟨_, rfl, eq1, F1⟩ (fun i σ H' _ ⟨_, _, _, f⟩ => SqT.of (f _ _ hsn List.not_mem_nil)) ?_ (fun σ H' ⟨v, e, e1, f⟩ => ⟨v, e, by rw [List.length_map, List.take_length] at e1; exact e1, f⟩)⟩
      rintro i x σ H2 H3 hi ⟨v, rfl, e2, f2⟩ ⟨rfl, hx⟩
      rw [List.getElem?_map] at hx
      obtain ⟨n, hn', rfl⟩ := Option.map_eq_some_iff.mp hx
      have hb := hse n (List.mem_of_getElem? hn')
      obtain ⟨j, rfl⟩ : ∃ j : Nat, n = (j : Int) := ⟨n.toNat, by omega⟩
      have G2 := G.same f2
      obtain ⟨dx2, vs2, hg2, _⟩ := id G2
      have hjl : j < L.length := by omega
      refine w_name ?_
      walk_at "rs rd"
      refine ⟨g, l, d, L, j, rfl, G2, fun k hk => ?_, fun i' s r hn hk => ?_, fun z => absurd z (by omega)⟩
      · obtain ⟨j, hj⟩ := List.getElem?_of_mem hk
        obtain ⟨b, rfl⟩ | ⟨o, ns, rfl, _⟩ := hR j k hj
        · exact ⟨_, _, rfl⟩
        · exact ⟨_, _, rfl⟩
      · walk_at "rs rd"
        refine w_setL e2 (Evl.ixN_nat (by rw [List.length_map, marks0_len]; exact hjl)) ?_
        refine ⟨_, rfl, ?_, f2.thenOwn hq0⟩
        rw [upd_same, marks0_set hjl, List.take_succ, hn']
        rfl
    · rintro σ H1 ⟨v, rfl, eq1, F1⟩
      have G1 := G.same F1
      obtain ⟨dx1, vs1, hg1, _⟩ := id G1
      refine w_cut (M := fun σ H' => ∃ v, σ = [some (.ref g), some (.ref sn), some (.ref q), v, none] ∧ H' q = some (.lst ((marksL L seen).map V.bl)) ∧ Fm [] H H') ?_ ?_
      · walk_at "rs rd"
        refine ⟨g, l, d, L, rfl, G1, ?_⟩
        walk_at "rs rd"
        refine ⟨(L.length : Int), rfl, by omega, by omega, for_it (walk_range (lo := 0) (n := (L.length : Int).toNat)) (fun i σ H' => ∃ v, σ = [some (.ref g), some (.ref sn), some (.ref q), v, none] ∧ H' q = some (.lst ((midM L seen i).map V.bl)) ∧ Fm [] H H')
          ⟨_, rfl, by rw [midM_zero]; exact eq1, F1⟩ (fun _ _ _ _ _ => trivial) ?_ (fun σ H' ⟨v, e, e1, f⟩ => ⟨v, e, by rw [Int.toNat_natCast, midM_all] at e1; exact e1, f⟩)⟩
        rintro i x σ H2 H3 hi ⟨v, rfl, e2, f2⟩ ⟨rfl, rfl⟩
        rw [Int.toNat_natCast] at hi
        simp only [Int.zero_add]
        have G2 := G.same f2
        obtain ⟨dx2, vs2, hg2, _⟩ := id G2
        obtain ⟨key, hkey⟩ : ∃ key, L[i]? = some key := ⟨_, List.getElem?_eq_getElem hi⟩
        have hsame : ∀ {j : Nat} {k' : NestedKey}, (i : Int) = (j : Int) → L[j]? = some k' → k' = key := fun {j k'} e1 e2 => by
          obtain rfl : i = j := by omega
          rw [hkey] at e2
          exact (Option.some.inj e2).symm
        have hin : ¬ ((i : Int) < 0 ∨ (L.length : Int) ≤ (i : Int)) := by omega
        have hlm : (midM L seen i).length = L.length := by unfold midM; rw [List.length_append, marksL_len, List.length_take, List.length_drop, marks0_len]; omega
        have hla : (marksL (L.take i) seen).length = i := by rw [marksL_len, List.length_take]; omega
        -- the mark stays where it is so already
        have stay : ∀ b : Bool, decide ((i : Int) ∈ seen) = b → stepM seen (marksL (L.take i) seen) key = b → midM L seen (i + 1) = midM L seen i := fun b e1 e2 => by
          rw [midM_succ hkey, e2]
          have h := midM_here (L := L) (seen := seen) hi
          rw [e1] at h
          obtain ⟨h1, h2⟩ := List.getElem?_eq_some_iff.mp h
          rw [← h2, List.set_getElem_self]
        refine w_name ?_
        walk_at "rs rd"
        refine w_ixL (by walk_at "rs sq") (atI_nat (by rw [List.getElem?_map, midM_here hi]; rfl)) ?_
        refine w_bool ?_
        cases hd : decide ((i : Int) ∈ seen) with
        | true =>
          rw [if_neg (by decide), if_neg (by decide)]
          exact w_next ⟨_, rfl, by rw [stay true hd (by unfold stepM; rw [hla, hd]; rfl)]; exact e2, f2⟩
        | false =>
          rw [if_pos (by decide)]
          walk_at "rs rd"
          refine ⟨g, l, d, L, i, rfl, G2, fun k hk => ?_, fun i' s r hn hk => ?_, fun z => absurd z hin⟩
          · obtain ⟨j, hj⟩ := List.getElem?_of_mem hk
            obtain ⟨b, rfl⟩ | ⟨o, ns, rfl, _⟩ := hR j k hj
            · exact ⟨_, _, rfl⟩
            · exact ⟨_, _, rfl⟩
          · refine w_bool ?_
            cases hsame hn hk
            refine w_iteN (fun hs => ?_) (fun hs => ?_)
            · obtain ⟨b, e⟩ | ⟨o, ns, e, hn10, hb⟩ := hR i _ hkey
              · injection e with e
                injection e with e _
                injection e with e
                exact absurd e hs
              · cases e
                have hLp : ∀ k ∈ L, (∃ b, k = .tup [.text "letter", b]) ∨ ∃ o ps, k = .tup [.text "op", .text o, .tup ps] := fun k hk => by
                  obtain ⟨j, hj⟩ := List.getElem?_of_mem hk
                  obtain ⟨b, rfl⟩ | ⟨o, ns, rfl, _⟩ := hR j k hj
                  · exact .inl ⟨_, rfl⟩
                  · exact .inr ⟨_, _, rfl⟩
                refine w_asg (w_cb (w_cons (w_lcT ?_)))
                walk_at "rs rd"
                refine ⟨g, l, d, L, i, rfl, G2, hLp, fun i' b hn hk => (by cases hsame hn hk), fun i' o' ps' v' hn hk hv => ?_, fun z => absurd z hin⟩
                cases hsame hn hk
                cases hv with
                | tup epp rpp =>
                  have ex := nums_vals rpp
                  subst ex
                  refine ⟨_, rfl, ⟨_, SqT.of epp⟩, fun D hD => ?_⟩
                  have hqD : q ≠ D := ne_of_none e2 hD
                  refine lc_it (walk_tup (xs := ns.map V.int)) (fun j H' => H' D = some (.lst (((ns.take j).map fun p => (marksL (L.take i) seen).getD p.toNat false).map V.bl)) ∧ Fm [] H3 H')
                    ⟨upd_same, Fm.new hD⟩ (fun j H' _ ⟨_, f⟩ => SqT.of (f _ _ epp List.not_mem_nil)) ?_ ?_
                  · rintro j x H4 H5 hj ⟨e4, f4⟩ ⟨rfl, hx⟩
                    rw [List.getElem?_map] at hx
                    obtain ⟨n, hn', rfl⟩ := Option.map_eq_some_iff.mp hx
                    have hbn := hb n (List.mem_of_getElem? hn')
                    obtain ⟨m, rfl⟩ : ∃ m : Nat, n = (m : Int) := ⟨n.toNat, by omega⟩
                    have e5 := f4 _ _ e2 List.not_mem_nil
                    refine w_name ⟨rfl, w_yes ?_⟩
                    walk_at "rs rd"
                    refine w_ixL (SqL.of e5) (atI_nat (by rw [List.getElem?_map, midM_ahead (by omega) (show m < i by omega)]; rfl)) ?_
                    refine ⟨_, e4, by rw [List.length_map, List.length_map, List.length_take, sizeLine_eq]; omega, ?_, f4.thenOwn hD⟩
                    rw [upd_same, List.take_succ, hn', List.map_append, List.map_append]
                    rfl
                  · rintro H4 ⟨e4, f4⟩
                    rw [List.length_map, List.take_length] at e4
                    have e5 := f4 _ _ e2 List.not_mem_nil
                    walk_at "rs rd"
                    refine ⟨D, _, rfl, SqL.of e4, ?_⟩
                    walk_at "rs rd"
                    refine w_setL e5 (Evl.ixN_nat (by rw [List.length_map, hlm]; exact hi)) ?_
                    refine w_next ⟨_, rfl, ?_, (f2.trans f4).thenOwn hq0⟩
                    rw [upd_same, midM_succ hkey, List.map_set]
                    have hst : stepM seen (marksL (L.take i) seen) (.tup [.text "op", .text o, .tup (ns.map .num)]) = (ns.map fun p => (marksL (L.take i) seen).getD p.toNat false).all id := by
                      unfold stepM
                      rw [hla, hd]
                      show (false || (!isLet _ && ((ns.map NestedKey.num).map numOf).all _)) = _
                      rw [List.map_map, show numOf ∘ NestedKey.num = id from rfl, List.map_id, List.all_map]
                      rfl
                    rw [hst]
            · subst hs
              refine w_next ⟨_, rfl, ?_, f2⟩
              rw [stay false hd (by unfold stepM; rw [hla, hd]; rfl)]
              exact e2
      · rintro σ H2 ⟨v, rfl, e2, f2⟩
        walk_at "rs rd"
        exact k q H2 hq0 e2 f2
/-- the nodes that are built of the seen ones -/
def builtL (L : List NestedKey) (seen : List Int) (n : Nat) : List Nat := (List.range n).filter fun i => (marksL L seen).getD i false
abbrev sBuilt : Stmt := top 7
def spBuilt (P : Program) (w : World) (C : Addr) : Sp := fun vs H Q _ => ∃ (g sn l d : Addr) (L : List NestedKey) (seen : List Int), vs = [.ref g, .ref sn] ∧ GraphAt P w C H g l d L ∧ H sn = some (.tup (seen.map V.int)) ∧ (∀ s ∈ seen, 0 ≤ s ∧ s < (L.length : Int)) ∧ RowsAt L ∧
  ∀ q H', H' q = some (.tup ((builtL L seen L.length).map fun i : Nat => V.int i)) → Fm [] H H' → Q (.ref q) H'
theorem scBuilt : FnScope ["graph", "nodes", "marks", "node"] ["graph", "nodes"] (defScope sBuilt) := ⟨rfl, rfl, rfl, by decide +kernel, rfl, by decide +kernel, by decide +kernel⟩
theorem ok_built {f fMk fMa : Addr} {fd fdMk fdMa : FuncData} (F : Fun K "built" "built" sBuilt f fd) (T : TxtG P K mg C CT fT CN) (T2 : Txt2 mg)
    (GMk : FnOk P w K mg base CX0 4 fMk fdMk ["graph", "nodes"] (spMarks P w C)) (mMk : mg "built_marks" = some (.ref fMk)) (kMk : PySem.W.keepIn K (.ref fMk) = true) (bMk : Binds K fdMk ["graph", "nodes"] [])
    (GMa : FnOk P w K mg base CX0 1 fMa fdMa ["self"] (spMany P w C)) (bMa : Binds K fdMa ["self"] []) (mMa : Meth K C "many" fMa) : FnOk P w K mg base CX0 5 f fd ["graph", "nodes"] (spBuilt P w C) := by
  refine F.ok scBuilt (fun vs H Q E h => ?_) (fun cdv A outer s H vs Q E hr h => ?_)
  · obtain ⟨g, sn, l, d, L, seen, rfl, _⟩ := h
    rfl
  · obtain ⟨g, sn, l, d, L, seen, rfl, G, hsn, hse, hR, k⟩ := h
    have nd := scBuilt.nd
    refine ⟨_, (pss_cons (ps_set (i := 2) nd rfl (Or.inr rfl) (pe_call (E := E0) GMk (hr.mono (by decide)) rfl mMk kMk bMk .nil pass0 (pa_cons (pv 0) (pa_cons (pv 1) pa_nil)))) (pss_one (ps_ret (pe_callTy call_tuple_of (by rfl) T.tuple (by decide +kernel) (pa_cons (pe_lc (own := [("node", 3)]) (g := gName 3) (tt := (tB (tOp (rIxL K) (tVar 2) (tVar 3)))) rfl nd (pi_range1 rfl T2.range (pa_cons (pe_meth0 (E := E0) (pv 0) T.cl mMa GMa (hr.mono (by decide)) bMa .nil pass0) pa_nil)) (blkOk_by (N := ["graph", "nodes", "marks", "node"]) (sc := defScope sBuilt) (by decide +kernel)) (fun _ _ _ _ _ => pg_name (i := 3) nd rfl (Or.inl rfl)) (fun _ _ _ _ _ => pts_one (pt_val (pe_ix (ix_listK (K := K) rfl) (pv 2) (pv 3) (fun _ _ => rfl)))) (fun _ _ _ _ _ => (pv 3))) pa_nil))))), ?_⟩
    have nMa : (gf l d).lookup ("many" : Str) = none := gf_no _ _ (by decide +kernel) (by decide +kernel)
    have hlen : L.length ≤ 3000 := by
      obtain ⟨_, _, _, _, _, _, _, _, h⟩ := G
      exact h
    walk_at "rs rd"
    refine ⟨g, sn, l, d, L, seen, rfl, G, hsn, hse, hR, fun q H1 hq e1 f1 => ?_⟩
    have G1 := G.same f1
    obtain ⟨dx1, vs1, hg1, _⟩ := id G1
    walk_at "rs rd"
    refine ⟨g, l, d, L, rfl, G1, ?_⟩
    walk_at "rs rd"
    refine ⟨(L.length : Int), rfl, by omega, by omega, fun D hD => ?_⟩
    refine lc_it (walk_range (lo := 0) (n := (L.length : Int).toNat)) (fun i H' => H' D = some (.lst ((builtL L seen i).map fun i : Nat => V.int i)) ∧ Fm [] H1 H')
      ⟨upd_same, Fm.new hD⟩ (fun _ _ _ _ => trivial) ?_ ?_
    · rintro i x H2 H3 hi ⟨e2, f2⟩ ⟨rfl, rfl⟩
      simp only [Int.zero_add]
      rw [Int.toNat_natCast] at hi
      have e3 := f2 _ _ e1 List.not_mem_nil
      have hml : (marksL L seen).length = L.length := marksL_len L
      have hat : (marksL L seen)[i]? = some ((marksL L seen).getD i false) := by
        rw [List.getD_eq_getElem?_getD, List.getElem?_eq_getElem (by omega)]
        rfl
      refine w_name ⟨rfl, ?_⟩
      walk_at "rs rd"
      refine w_ixL (by walk_at "rs sq") (atI_nat (by rw [List.getElem?_map, hat]; rfl)) ?_
      refine w_bool ?_
      have hsuc : builtL L seen (i + 1) = if (marksL L seen).getD i false = true then builtL L seen i ++ [i] else builtL L seen i := by
        unfold builtL
        rw [List.range_succ, List.filter_append]
        by_cases h : (marksL L seen).getD i false = true
        · rw [if_pos h, List.filter_cons, if_pos h]
          rfl
        · rw [if_neg h, List.filter_cons, if_neg h]
          simp
      by_cases h : (marksL L seen).getD i false = true
      · rw [if_pos h]
        rw [if_pos h] at hsuc
        walk_at "rs rd"
        refine ⟨_, e2, ?_, ?_, f2.thenOwn hD⟩
        · rw [List.length_map, sizeLine_eq]
          have := List.length_filter_le (fun i => (marksL L seen).getD i false) (List.range i)
          rw [List.length_range] at this
          unfold builtL
          omega
        · rw [upd_same, hsuc, List.map_append]
          rfl
      · rw [if_neg h]
        rw [if_neg h] at hsuc
        rw [hsuc]
        exact ⟨e2, f2⟩
    · rintro H2 ⟨e2, f2⟩
      rw [Int.toNat_natCast] at e2
      walk_at "rs rd"
      refine ⟨D, _, rfl, .inl ⟨SqL.of e2, fun t ht => ?_⟩⟩
      exact k t _ upd_same ((f1.trans f2).thenNew ht)
end
end Rs

set_option Elab.async false
set_option linter.all false
set_option maxRecDepth 100000
set_option maxHeartbeats 4000000
/-! wanted_nodes -/
namespace Rs
open PySem L2 PySem.Spec PyProof.Rows
local macro_rules | `(tactic| walk_at "rs ne") => `(tactic| first | assumption | (apply Ne.symm; assumption) | (apply ne_n1; assumption; walk_at "rs hp") | (apply ne_n2; assumption; walk_at "rs hp"))
local macro_rules | `(tactic| walk_at "rs hp") => `(tactic| first | assumption | exact upd_same | (apply hp_ne; (walk_at "rs ne"); (walk_at "rs hp")))
local macro_rules | `(tactic| walk_at "rs sq") => `(tactic| first | assumption | (apply SqL.of; walk_at "rs hp") | (apply SqT.of; walk_at "rs hp"))
local macro_rules | `(tactic| walk_at "rs sz") => `(tactic| first | decide | (rw [sizeLine_eq]; simp; done) | (rw [sizeLine_eq]; simp; omega) | (rw [sizeLine_eq]; omega))
local macro_rules | `(tactic| walk_at "rs ar") => `(tactic| first | assumption | (show (0 : Int) < _; first | assumption | decide | omega) | exact Or.inr ⟨by decide, by decide⟩ | exact Or.inl ⟨by decide, by decide⟩ | exact Or.inl ⟨by omega, by omega⟩ | exact Or.inr ⟨by omega, by omega⟩ | exact ⟨by decide, by decide, by decide⟩ | exact ⟨by decide, by decide⟩ | exact ⟨by omega, by omega⟩)
local macro_rules | `(tactic| walk_at "rs r1") => `(tactic| with_reducible (first | refine w_var rfl ?_ | refine w_c ?_ | refine w_op ?_ | refine w_un ?_ | refine w_test ?_ | refine w_B ?_ | refine w_bool ?_ | refine w_not ?_ | refine w_cb ?_ | refine w_nil ?_ | refine w_cons ?_ | refine w_asg ?_ | refine w_name ?_ | refine w_seq ?_ | refine w_ret ?_ | refine w_drop ?_ | refine w_next ?_ | refine w_ifS ?_ | refine w_I0 ?_ | refine w_eqI ?_ | refine w_neI ?_ | refine w_int ?_ | refine w_abs ?_ | refine w_sl ?_ | refine w_part ?_ | refine w_intO ?_ | refine w_nopart ?_ | refine w_gsub ?_ | refine w_augS ?_ | refine w_ip ?_ | refine w_lst ?_ | refine w_tup ?_ | refine w_if ?_ | refine w_and ?_ | refine w_or ?_ | refine w_tfld ?_ | refine w_forL ?_ | refine w_forT ?_ | refine w_forR1 ?_ | refine w_forR2 ?_ | refine w_forE ?_ | refine w_lcL ?_ | refine w_lcR1 ?_ | refine w_bm ?_ | refine w_call ?_ | refine w_meth ?_ | refine w_nget ?_ | refine w_nin ?_ | refine w_nput ?_ | refine w_eqS ?_ | refine w_neS ?_))
local macro_rules | `(tactic| walk_at "rs r2") => `(tactic| first | (walk_at "rs r1") | ((with_reducible refine' w_ixL ?h1 ?h2 ?h3); (case h1 => walk_at "rs sq"); (case h2 => first | rfl | exact atI_nat (j := 0) rfl | exact atI_nat (j := 1) rfl | exact atI_nat (j := 2) rfl)) | ((with_reducible refine' w_ixT ?h1 ?h2 ?h3); (case h1 => walk_at "rs sq"); (case h2 => first | rfl | exact atI_nat (j := 0) rfl | exact atI_nat (j := 1) rfl | exact atI_nat (j := 2) rfl)) | ((with_reducible refine' w_cutL ?h1 ?_); (case h1 => walk_at "rs sq"); intro q hq) | ((with_reducible refine' w_cat ?h1 ?h2 ?h3 ?_); (case h1 => walk_at "rs hp"); (case h2 => walk_at "rs hp"); (case h3 => walk_at "rs sz"); intro q hq) | ((with_reducible refine' w_small ?h1 ?_); (case h1 => exact Nat.le_of_ble_eq_true rfl); intro q hq) | ((with_reducible refine' w_setL ?h1 ?h2 ?_); (case h1 => walk_at "rs hp"); (case h2 => rfl)) | ((with_reducible refine' w_getL ?h0 ?h1 ?h2 ?_); (case h0 => rfl); (case h1 => walk_at "rs sq"); (case h2 => rfl)) | ((with_reducible refine' w_lenL ?h1 ?_); (case h1 => walk_at "rs sq")) | ((with_reducible refine' w_lenT ?h1 ?_); (case h1 => walk_at "rs sq")) | ((with_reducible refine' w_fld ?h1 ?h2 ?h3 ?h4 ?_); (case h1 => assumption); (case h2 => assumption); (case h3 => walk_at "rs hp"); (case h4 => assumption)) | ((with_reducible refine' w_methAt ?h1 ?h2 ?_); (case h1 => walk_at "rs hp"); (case h2 => assumption)) | ((with_reducible refine' w_tyL ?h1 ?_); (case h1 => walk_at "rs sq")) | ((with_reducible refine' w_append ?h1 ?h2 ?_); (case h1 => walk_at "rs hp"); (case h2 => assumption)) | ((with_reducible refine' w_I ?h1 ?_); (case h1 => walk_at "rs ar")))
local macro_rules | `(tactic| walk_at "rs rd") => `(tactic| repeat (walk_at "rs r2"))
abbrev sWanted : Stmt := top 8
def putAll (ps : List Int) (acc : List Bool) : List Bool := ps.foldl (fun a p => a.set p.toNat true) acc
def inK (kvs : List (Key × V)) (n : Int) : Bool := (valV kvs (.inl n)).isSome
def wStep (L : List NestedKey) (kvs : List (Key × V)) (acc : List Bool) (here : Nat) : List Bool := if (acc.getD here false && !inK kvs here) = true then putAll (partsOf (L.getD here .none)) acc else acc
/-- the marks of wanted nodes behind k turns -/
def wantM (L : List NestedKey) (kvs : List (Key × V)) (node k : Nat) : List Bool := (List.range k).foldl (fun acc j => wStep L kvs acc (node - j)) ((List.replicate (node + 1) false).set node true)
def wantL (L : List NestedKey) (kvs : List (Key × V)) (node n : Nat) : List Nat := (List.range n).filter fun i => (wantM L kvs node (node + 1)).getD i false
theorem putAll_len (ps : List Int) : ∀ acc : List Bool, (putAll ps acc).length = acc.length := by
  induction ps with
  | nil => intro acc; rfl
  | cons p r ih => intro acc; show (putAll r (acc.set p.toNat true)).length = _; rw [ih, List.length_set]
theorem putAll_snoc (ps : List Int) (p : Int) (acc : List Bool) : putAll (ps ++ [p]) acc = (putAll ps acc).set p.toNat true := by simp [putAll]
theorem wStep_len (L : List NestedKey) (kvs : List (Key × V)) (acc : List Bool) (here : Nat) : (wStep L kvs acc here).length = acc.length := by
  unfold wStep
  split
  · exact putAll_len _ _
  · rfl
theorem wantM_succ (L : List NestedKey) (kvs : List (Key × V)) (node k : Nat) : wantM L kvs node (k + 1) = wStep L kvs (wantM L kvs node k) (node - k) := by simp [wantM, List.range_succ]
theorem wantM_len (L : List NestedKey) (kvs : List (Key × V)) (node : Nat) : ∀ k, (wantM L kvs node k).length = node + 1
  | 0 => by simp [wantM]
  | k + 1 => by rw [wantM_succ, wStep_len, wantM_len L kvs node k]
theorem w_dnotin {ty td : TE} {σ : L2.St} {H : Hp} {Q : VK} (k : ty σ H fun y H1 => td σ H1 fun x H2 => ∃ a o, x = .ref a ∧ DGet H2 a y o ∧ Q (.bl (!o.isSome)) H2) : tDNotIn ty td σ H Q := k
theorem rep_false (n : Nat) : (List.replicate n [V.bl false]).flatten = (List.replicate n false).map V.bl := by
  have h3 : (List.replicate n [V.bl false]).flatten = List.replicate n (V.bl false) := by simp
  rw [h3, List.map_replicate]
def spWanted (P : Program) (w : World) (C : Addr) : Sp := fun vs H Q _ => ∃ (g pl l d : Addr) (L : List NestedKey) (kvs : List (Key × V)) (node : Nat), vs = [.ref g, .ref pl, .int (node : Int)] ∧ GraphAt P w C H g l d L ∧ H pl = some (.dK kvs) ∧ node < L.length ∧ RowsAt L ∧
  ∀ q H', H q = none → H' q = some (.lst ((wantL L kvs node (node + 1)).map fun i : Nat => V.int i)) → Fm [] H H' → Q (.ref q) H'
section
variable {P : Program} {w : World} {K : PySem.W.Frag} {mg : Str → Option Value} {base : Heap} {C CT fT CN : Addr}
theorem scWanted : FnScope ["graph", "places", "node", "wanted", "k", "here", "part"] ["graph", "places", "node"] (defScope sWanted) := ⟨rfl, rfl, rfl, by decide +kernel, rfl, by decide +kernel, by decide +kernel⟩
theorem ok_wanted {f fPa : Addr} {fd fdPa : FuncData} (F : Fun K "wanted_nodes" "wanted_nodes" sWanted f fd) (T : TxtG P K mg C CT fT CN) (T2 : Txt2 mg)
    (GPa : FnOk P w K mg base (L2.CX P w) 3 fPa fdPa ["self", "n"] (spParts P w C CN)) (bPa : Binds K fdPa ["self", "n"] []) (mPa : Meth K C "parts_of" fPa) : FnOk P w K mg base CX0 4 f fd ["graph", "places", "node"] (spWanted P w C) := by
  refine F.ok scWanted (fun vs H Q E h => ?_) (fun cdv A outer s H vs Q E hr h => ?_)
  · obtain ⟨g, pl, l, d, L, kvs, node, rfl, _⟩ := h
    rfl
  · obtain ⟨g, pl, l, d, L, kvs, node, rfl, G, hpl, hno, hR, k⟩ := h
    have nd := scWanted.nd
    have hu1 := hu_of hr
    refine ⟨_, (pss_cons (ps_set (i := 3) nd rfl (Or.inr rfl) (pe_op op_rep (pe_lst (pa_cons pe_bl pa_nil)) (pe_op op_add (pv 2) pe_int))) (pss_cons (ps_asg pe_bl (pg_sub (pv 3) (pv 2) set_list)) (Evl.pss_cut (ps_for PassesOwn.never rfl (pi_range1 rfl T2.range (pa_cons (pe_op op_add (pv 2) pe_int) pa_nil)) (pg_name (i := 4) nd rfl (Or.inl rfl)) (pss_cons (ps_set (i := 5) nd rfl (Or.inl rfl) (pe_op op_sub (pv 2) (pv 4))) (pss_one (ps_if (PW.pt (pw_and (pt_val (pe_ix ix_list (pv 3) (pv 5) (fun _ _ => rfl))) (pw_and1 (pt_cmp (pc_dnotin hu1 (pv 5) (pv 1)))))) (pss_one (ps_for PassesOwn.never rfl (pi_tup (pe_meth (E := E0) (pv 0) T.cl mPa GPa (hr.mono (by decide)) bPa .nil (passes_call LamX.takes0 fun _ _ _ _ h => h) (pa_cons (pv 5) pa_nil))) (pg_name (i := 6) nd rfl (Or.inl rfl)) (pss_one (ps_asg pe_bl (pg_sub (pv 3) (pv 6) set_list))))) pss_nil)))) (pss_one (ps_ret (pe_lc (own := [("here", 5)]) (g := gName 5) (tt := (tB (tOp (rIxL K) (tVar 3) (tVar 5)))) rfl nd (pi_range1 rfl T2.range (pa_cons (pe_op op_add (pv 2) pe_int) pa_nil)) (blkOk_by (N := ["graph", "places", "node", "wanted", "k", "here", "part"]) (sc := defScope sWanted) (by decide +kernel)) (fun _ _ _ _ _ => pg_name (i := 5) nd rfl (Or.inl rfl)) (fun _ _ _ _ _ => pts_one (pt_val (pe_ix (ix_listK (K := K) rfl) (pv 3) (pv 5) (fun _ _ => rfl)))) (fun _ _ _ _ _ => (pv 5)))))))), ?_⟩
    have nPa : (gf l d).lookup ("parts_of" : Str) = none := gf_no _ _ (by decide +kernel) (by decide +kernel)
    have hlen : L.length ≤ 3000 := by
      obtain ⟨_, _, _, _, _, _, _, _, h⟩ := G
      exact h
    walk_at "rs rd"
    rename_i q1 hq1
    refine ⟨q1, _, _, rfl, rfl, upd_same, by omega, by omega, by rw [sizeLine_eq]; simp; omega, fun q hq => ?_⟩
    rw [rep_false, show ((node : Int) + 1).toNat = node + 1 by omega]
    have F1 : Fm [] H (upd (upd H q1 (.lst [.bl false])) q (.lst ((List.replicate (node + 1) false).map V.bl))) := (Fm.new hq1).thenNew hq
    have hq0 : H q = none := (Fm.new hq1 : Fm [] H _).none hq List.not_mem_nil
    generalize hH : upd (upd H q1 (.lst [.bl false])) q (.lst ((List.replicate (node + 1) false).map V.bl)) = H1 at F1 ⊢
    have eq1 : H1 q = some (.lst ((List.replicate (node + 1) false).map V.bl)) := by rw [← hH]; exact upd_same
    clear hH hq hq1
    refine w_name ?_
    walk_at "rs rd"
    refine w_setL eq1 (Evl.ixN_nat (by simp)) ?_
    rw [← List.map_set]
    have F2 := F1.thenOwn (o := .lst (((List.replicate (node + 1) false).set node true).map V.bl)) hq0
    generalize hH : upd H1 q (.lst (((List.replicate (node + 1) false).set node true).map V.bl)) = H2 at F2 ⊢
    have eq2 : H2 q = some (.lst (((List.replicate (node + 1) false).set node true).map V.bl)) := by rw [← hH]; exact upd_same
    clear hH eq1 F1
    have hLp : ∀ k ∈ L, (∃ b, k = .tup [.text "letter", b]) ∨ ∃ o ps, k = .tup [.text "op", .text o, .tup ps] := fun k hk => by
      obtain ⟨j, hj⟩ := List.getElem?_of_mem hk
      obtain ⟨b, rfl⟩ | ⟨o, ns, rfl, _⟩ := hR j k hj
      · exact .inl ⟨_, rfl⟩
      · exact .inr ⟨_, _, rfl⟩
    refine w_cut (M := fun σ H' => ∃ o4 o5 o6, σ = [some (.ref g), some (.ref pl), some (.int (node : Int)), some (.ref q), o4, o5, o6] ∧ H' q = some (.lst ((wantM L kvs node (node + 1)).map V.bl)) ∧ Fm [] H H') ?_ ?_
    · walk_at "rs rd"
      refine ⟨(node : Int) + 1, rfl, by omega, by omega, for_it (walk_range (lo := 0) (n := ((node : Int) + 1).toNat)) (fun i σ H' => ∃ o4 o5 o6, σ = [some (.ref g), some (.ref pl), some (.int (node : Int)), some (.ref q), o4, o5, o6] ∧ H' q = some (.lst ((wantM L kvs node i).map V.bl)) ∧ Fm [] H H')
        ⟨_, _, _, rfl, eq2, F2⟩ (fun _ _ _ _ _ => trivial) ?_ (fun σ H' ⟨o4, o5, o6, e, e1, f⟩ => ⟨o4, o5, o6, e, by rw [show ((node : Int) + 1).toNat = node + 1 by omega] at e1; exact e1, f⟩)⟩
      rintro i x σ H3 H4 hi ⟨o4, o5, o6, rfl, e3, f3⟩ ⟨rfl, rfl⟩
      rw [show ((node : Int) + 1).toNat = node + 1 by omega] at hi
      simp only [Int.zero_add]
      have G3 := G.same f3
      obtain ⟨dx3, vs3, hg3, _⟩ := id G3
      refine w_name ?_
      walk_at "rs rd"
      rw [show (node : Int) - (i : Int) = ((node - i : Nat) : Int) by omega]
      have hwl := wantM_len L kvs node i
      have hat : (wantM L kvs node i)[node - i]? = some ((wantM L kvs node i).getD (node - i) false) := by
        rw [List.getD_eq_getElem?_getD, List.getElem?_eq_getElem (by omega)]
        rfl
      refine w_ixL (by walk_at "rs sq") (atI_nat (by rw [List.getElem?_map, hat]; rfl)) ?_
      refine w_bool ?_
      have hst := wantM_succ L kvs node i
      unfold wStep at hst
      cases hb : (wantM L kvs node i).getD (node - i) false with
      | false =>
        rw [if_neg (by decide), if_neg (by decide)]
        rw [hb, if_neg (by simp)] at hst
        exact w_next ⟨_, _, _, rfl, by rw [hst]; exact e3, f3⟩
      | true =>
        rw [if_pos rfl]
        have hpl3 := f3 _ _ hpl List.not_mem_nil
        refine w_B (w_dnotin (w_var rfl (w_var rfl ⟨pl, _, rfl, .inl ⟨kvs, .inl _, .inl hpl3, rfl, rfl⟩, w_bool ?_⟩)))
        have hin : (!(valV kvs (Sum.inl ((node - i : Nat) : Int))).isSome) = !inK kvs ((node - i : Nat) : Int) := rfl
        rw [hin]
        rw [hb, Bool.true_and] at hst
        cases hk : inK kvs ((node - i : Nat) : Int) with
        | true =>
          rw [if_neg (by decide)]
          rw [hk, if_neg (by decide)] at hst
          exact w_next ⟨_, _, _, rfl, by rw [hst]; exact e3, f3⟩
        | false =>
          rw [if_pos (by decide)]
          rw [hk, if_pos (by decide)] at hst
          obtain ⟨key, hkey⟩ : ∃ key, L[node - i]? = some key := ⟨_, List.getElem?_eq_getElem (by omega)⟩
          have hgd : L.getD (node - i) .none = key := by
            rw [List.getD_eq_getElem?_getD, hkey]
            rfl
          rw [hgd] at hst
          have hsame : ∀ {j : Nat} {k' : NestedKey}, ((node - i : Nat) : Int) = (j : Int) → L[j]? = some k' → k' = key := fun {j k'} e1 e2 => by
            obtain rfl : node - i = j := by omega
            rw [hkey] at e2
            exact (Option.some.inj e2).symm
          walk_at "rs rd"
          refine ⟨g, l, d, L, ((node - i : Nat) : Int), rfl, G3, hLp, fun i' b hn hk' p hp => ?_, fun i' o' ps' v' hn hk' hv => ?_, fun z => absurd z (by omega)⟩
          · cases hsame hn hk'
            refine ⟨p, rfl, ⟨_, SqT.of upd_same⟩, for_it (walk_tup (xs := [])) (fun j σ H' => ∃ o6, σ = [some (.ref g), some (.ref pl), some (.int (node : Int)), some (.ref q), some (.int (i : Int)), some (.int ((node - i : Nat) : Int)), o6] ∧ H' q = some (.lst ((wantM L kvs node i).map V.bl)) ∧ H' p = some (.tup []) ∧ Fm [] H H')
              ⟨_, rfl, (Fm.new hp : Fm [] _ _) _ _ e3 List.not_mem_nil, upd_same, f3.thenNew hp⟩ (fun j σ H' _ ⟨_, _, _, e, _⟩ => SqT.of e) (fun j x σ H5 H6 hj => absurd hj (Nat.not_lt_zero _)) (fun σ H' ⟨o6, e, e1, _, f⟩ => ⟨_, _, o6, e, by rw [hst]; exact e1, f⟩)⟩
          · cases hsame hn hk'
            obtain ⟨b, e⟩ | ⟨o, ns, e, hn10, hb'⟩ := hR _ _ hkey
            · cases e
            · cases e
              have hpo : partsOf (.tup [.text "op", .text o', .tup (ns.map .num)]) = ns := by
                show (ns.map NestedKey.num).map numOf = ns
                rw [List.map_map, show numOf ∘ NestedKey.num = id from rfl, List.map_id]
              rw [hpo] at hst
              cases hv with
              | tup epp rpp =>
                have ex := nums_vals rpp
                subst ex
                refine ⟨_, rfl, ⟨_, SqT.of epp⟩, for_it (walk_tup (xs := ns.map V.int)) (fun j σ H' => ∃ o6, σ = [some (.ref g), some (.ref pl), some (.int (node : Int)), some (.ref q), some (.int (i : Int)), some (.int ((node - i : Nat) : Int)), o6] ∧ H' q = some (.lst ((putAll (ns.take j) (wantM L kvs node i)).map V.bl)) ∧ (∀ a o, a ≠ q → H4 a = some o → H' a = some o) ∧ Fm [] H H')
                  ⟨_, rfl, e3, fun _ _ _ e => e, f3⟩ (fun j σ H' _ ⟨_, _, _, f, _⟩ => SqT.of (f _ _ (fun z => by rw [z, e3] at epp; cases epp) epp)) ?_ (fun σ H' ⟨o6, e, e1, _, f⟩ => ⟨_, _, o6, e, by rw [hst]; rw [List.length_map, List.take_length] at e1; exact e1, f⟩)⟩
                rintro j x σ H5 H6 hj ⟨o6, rfl, e5, g5, f5⟩ ⟨rfl, hx⟩
                rw [List.getElem?_map] at hx
                obtain ⟨n, hn', rfl⟩ := Option.map_eq_some_iff.mp hx
                have hbn := hb' n (List.mem_of_getElem? hn')
                obtain ⟨m, rfl⟩ : ∃ m : Nat, n = (m : Int) := ⟨n.toNat, by omega⟩
                refine w_name ?_
                walk_at "rs rd"
                refine w_setL e5 (Evl.ixN_nat (by rw [List.length_map, putAll_len, hwl]; omega)) ?_
                refine ⟨_, rfl, ?_, fun a o ha e => ?_, f5.thenOwn hq0⟩
                · rw [upd_same, List.take_succ, hn']
                  show _ = some (HO.lst ((putAll (ns.take j ++ [(m : Int)]) _).map V.bl))
                  rw [putAll_snoc, List.map_set]
                  rfl
                · rw [upd_ne ha]
                  exact g5 a o ha e
    · rintro σ H3 ⟨o4, o5, o6, rfl, e3, f3⟩
      walk_at "rs rd"
      refine ⟨(node : Int) + 1, rfl, by omega, by omega, fun D hD => ?_⟩
      refine lc_it (walk_range (lo := 0) (n := ((node : Int) + 1).toNat)) (fun i H' => H' D = some (.lst ((wantL L kvs node i).map fun i : Nat => V.int i)) ∧ Fm [] H3 H')
        ⟨upd_same, Fm.new hD⟩ (fun _ _ _ _ => trivial) ?_ ?_
      · rintro i x H4 H5 hi ⟨e4, f4⟩ ⟨rfl, rfl⟩
        rw [show ((node : Int) + 1).toNat = node + 1 by omega] at hi
        simp only [Int.zero_add]
        have e5 := f4 _ _ e3 List.not_mem_nil
        have hwl := wantM_len L kvs node (node + 1)
        have hat : (wantM L kvs node (node + 1))[i]? = some ((wantM L kvs node (node + 1)).getD i false) := by
          rw [List.getD_eq_getElem?_getD, List.getElem?_eq_getElem (by omega)]
          rfl
        refine w_name ⟨rfl, ?_⟩
        walk_at "rs rd"
        refine w_ixL (by walk_at "rs sq") (atI_nat (by rw [List.getElem?_map, hat]; rfl)) ?_
        refine w_bool ?_
        have hsuc : wantL L kvs node (i + 1) = if (wantM L kvs node (node + 1)).getD i false = true then wantL L kvs node i ++ [i] else wantL L kvs node i := by
          unfold wantL
          rw [List.range_succ, List.filter_append]
          by_cases h : (wantM L kvs node (node + 1)).getD i false = true
          · rw [if_pos h, List.filter_cons, if_pos h]
            rfl
          · rw [if_neg h, List.filter_cons, if_neg h]
            simp
        by_cases h : (wantM L kvs node (node + 1)).getD i false = true
        · rw [if_pos h]
          rw [if_pos h] at hsuc
          walk_at "rs rd"
          refine ⟨_, e4, ?_, ?_, f4.thenOwn hD⟩
          · rw [List.length_map, sizeLine_eq]
            have := List.length_filter_le (fun i => (wantM L kvs node (node + 1)).getD i false) (List.range i)
            rw [List.length_range] at this
            unfold wantL
            omega
          · rw [upd_same, hsuc, List.map_append]
            rfl
        · rw [if_neg h]
          rw [if_neg h] at hsuc
          rw [hsuc]
          exact ⟨e4, f4⟩
      · rintro H4 ⟨e4, f4⟩
        rw [show ((node : Int) + 1).toNat = node + 1 by omega] at e4
        exact k D H4 ((f3.none hD List.not_mem_nil)) e4 (f3.trans f4)
end
end Rs

set_option Elab.async false
set_option linter.all false
set_option maxRecDepth 100000
set_option maxHeartbeats 4000000
/-! the plain law of recipes: what is wanted is marked, parts first -/
namespace Rs
open PySem L2 PySem.Spec PyProof.Rows
section
variable {L : List NestedKey} {seen : List Int} {kvs : List (Key × V)} {node : Nat}
theorem fold_take : ∀ (M : List NestedKey) (acc : List Bool), (M.foldl (fun acc k => acc ++ [stepM seen acc k]) acc).take acc.length = acc
  | [], acc => List.take_length
  | k :: r, acc => by
    rw [List.foldl_cons]
    have h := fold_take r (acc ++ [stepM seen acc k])
    rw [List.length_append] at h
    have h2 := congrArg (List.take acc.length) h
    rw [List.take_take, Nat.min_eq_left (Nat.le_add_right _ _), List.take_left] at h2
    exact h2
theorem marksL_take {i : Nat} (h : i ≤ L.length) : (marksL L seen).take i = marksL (L.take i) seen := by
  have e : marksL L seen = (L.drop i).foldl (fun acc k => acc ++ [stepM seen acc k]) (marksL (L.take i) seen) := by
    unfold marksL
    rw [← List.foldl_append, List.take_append_drop]
  have q := fold_take (seen := seen) (L.drop i) (marksL (L.take i) seen)
  rw [← e, marksL_len, List.length_take, Nat.min_eq_left h] at q
  exact q
theorem marksL_lo {i p : Nat} (h : i ≤ L.length) (hp : p < i) : (marksL (L.take i) seen).getD p false = (marksL L seen).getD p false := by
  rw [← marksL_take h, List.getD_eq_getElem?_getD, List.getD_eq_getElem?_getD, List.getElem?_take_of_lt hp]
theorem marksL_at {i : Nat} {k : NestedKey} (h : L[i]? = some k) : (marksL L seen).getD i false = stepM seen (marksL (L.take i) seen) k := by
  have hi := (List.getElem?_eq_some_iff.mp h).1
  have e := marksL_take (L := L) (seen := seen) (i := i + 1) (by omega)
  have e' : L.take (i + 1) = L.take i ++ [k] := by
    rw [List.take_succ, h]
    rfl
  rw [e'] at e
  have e2 : (marksL L seen).take (i + 1) = marksL (L.take i) seen ++ [stepM seen (marksL (L.take i) seen) k] := e.trans marksL_snoc
  have hl : (marksL (L.take i) seen).length = i := by rw [marksL_len, List.length_take]; omega
  have q : ((marksL L seen).take (i + 1))[i]? = some (stepM seen (marksL (L.take i) seen) k) := by
    rw [e2, List.getElem?_append_right (by omega), hl, Nat.sub_self]
    rfl
  rw [List.getElem?_take_of_lt (by omega)] at q
  rw [List.getD_eq_getElem?_getD, q]
  rfl
/-- the parts of a row stand ahead of it -/
theorem parts_ahead (hR : RowsAt L) {i : Nat} {k : NestedKey} (h : L[i]? = some k) : ∀ p ∈ partsOf k, 0 ≤ p ∧ p < (i : Int) := fun p hp => by
  obtain ⟨b, rfl⟩ | ⟨o, ns, rfl, _, hb⟩ := hR i k h
  · exact absurd hp List.not_mem_nil
  · have e : partsOf (.tup [.text "op", .text o, .tup (ns.map .num)]) = ns := by
      show (ns.map NestedKey.num).map numOf = ns
      rw [List.map_map, show numOf ∘ NestedKey.num = id from rfl, List.map_id]
    rw [e] at hp
    exact hb p hp
/-- a marked row that is not seen is an operation of marked parts -/
theorem marked_op (hR : RowsAt L) {i : Nat} (hi : i < L.length) (hm : (marksL L seen).getD i false = true) (hs : (i : Int) ∉ seen) :
    ∃ (o : Str) (ns : List Int), L[i]? = some (.tup [.text "op", .text o, .tup (ns.map .num)]) ∧ ns.length ≤ 10 ∧ ∀ p ∈ ns, ∃ m : Nat, p = (m : Int) ∧ m < i ∧ (marksL L seen).getD m false = true := by
  have hk : L[i]? = some L[i] := List.getElem?_eq_getElem hi
  generalize L[i] = k at hk
  rw [marksL_at hk] at hm
  unfold stepM at hm
  have hl : (marksL (L.take i) seen).length = i := by rw [marksL_len, List.length_take]; omega
  rw [hl, decide_eq_false hs, Bool.false_or, Bool.and_eq_true] at hm
  obtain ⟨b, rfl⟩ | ⟨o, ns, rfl, h10, hb⟩ := hR i k hk
  · exact absurd hm.1 (show ¬ (!true) = true by decide)
  · refine ⟨o, ns, hk, h10, fun p hp => ?_⟩
    have hbp := hb p hp
    obtain ⟨m, rfl⟩ : ∃ m : Nat, p = (m : Int) := ⟨p.toNat, by omega⟩
    refine ⟨m, rfl, by omega, ?_⟩
    have e : partsOf (.tup [.text "op", .text o, .tup (ns.map .num)]) = ns := by
      show (ns.map NestedKey.num).map numOf = ns
      rw [List.map_map, show numOf ∘ NestedKey.num = id from rfl, List.map_id]
    have q := List.all_eq_true.mp hm.2 (m : Int) (by rw [e]; exact hp)
    rw [Int.toNat_natCast, marksL_lo (Nat.le_of_lt hi) (by omega)] at q
    exact q
theorem putAll_mono : ∀ (ps : List Int) (acc : List Bool) {i : Nat}, acc.getD i false = true → (putAll ps acc).getD i false = true
  | [], _, _, h => h
  | p :: r, acc, i, h => by
    refine putAll_mono r (acc.set p.toNat true) ?_
    rw [List.getD_eq_getElem?_getD] at h ⊢
    by_cases e : p.toNat = i
    · subst e
      have hl : p.toNat < acc.length := by
        by_cases hl : p.toNat < acc.length
        · exact hl
        · rw [List.getElem?_eq_none (by omega)] at h
          cases h
      rw [List.getElem?_set_self hl]
      rfl
    · rw [List.getElem?_set_ne e]
      exact h
theorem putAll_in : ∀ (ps : List Int) (acc : List Bool) {m : Nat}, (m : Int) ∈ ps → m < acc.length → (putAll ps acc).getD m false = true
  | [], _, _, h, _ => absurd h List.not_mem_nil
  | p :: r, acc, m, h, hl => by
    rcases List.mem_cons.mp h with e | h
    · refine putAll_mono r (acc.set p.toNat true) ?_
      rw [← e, Int.toNat_natCast, List.getD_eq_getElem?_getD, List.getElem?_set_self hl]
      rfl
    · exact putAll_in r (acc.set p.toNat true) h (by rw [List.length_set]; exact hl)
theorem putAll_out : ∀ (ps : List Int) (acc : List Bool) {i : Nat}, (∀ p ∈ ps, 0 ≤ p) → (putAll ps acc).getD i false = true → acc.getD i false = true ∨ (i : Int) ∈ ps
  | [], _, _, _, h => .inl h
  | p :: r, acc, i, hp, h => by
    rcases putAll_out r (acc.set p.toNat true) (fun q hq => hp q (List.mem_cons_of_mem _ hq)) h with h | h
    · by_cases e : p.toNat = i
      · have := hp p List.mem_cons_self
        exact .inr (by rw [← e, Int.toNat_of_nonneg this]; exact List.mem_cons_self)
      · rw [List.getD_eq_getElem?_getD, List.getElem?_set_ne e, ← List.getD_eq_getElem?_getD] at h
        exact .inl h
    · exact .inr (List.mem_cons_of_mem _ h)
/-- what one turn leaves: places at the node's own place and beyond stay -/
theorem wStep_keep (hR : RowsAt L) {acc : List Bool} {here i : Nat} (hh : here < L.length) (hi : here ≤ i) : (wStep L kvs acc here).getD i false = acc.getD i false := by
  unfold wStep
  split
  · rename_i h
    have hk : L[here]? = some (L.getD here .none) := by
      rw [List.getD_eq_getElem?_getD, List.getElem?_eq_getElem hh]
      rfl
    have ah := parts_ahead hR hk
    cases q : (putAll (partsOf (L.getD here .none)) acc).getD i false with
    | true =>
      rcases putAll_out _ _ (fun p hp => (ah p hp).1) q with h | h
      · exact h.symm
      · have := (ah _ h).2
        omega
    | false =>
      cases r : acc.getD i false with
      | true => rw [putAll_mono _ _ r] at q; cases q
      | false => rfl
  · rfl
theorem wantM_keep (hR : RowsAt L) (hn : node < L.length) {i : Nat} : ∀ {j k : Nat}, node - j ≤ i → j ≤ k → k ≤ node + 1 → (wantM L kvs node k).getD i false = (wantM L kvs node j).getD i false := fun {j k} h1 h2 h3 => by
  induction k with
  | zero =>
    obtain rfl : j = 0 := by omega
    rfl
  | succ k ih =>
    by_cases e : j = k + 1
    · rw [e]
    · rw [wantM_succ, wStep_keep hR (by omega) (by omega)]
      exact ih (by omega) (by omega)
theorem want_node : (wantM L kvs node 0).getD node false = true := by
  unfold wantM
  rw [List.range_zero, List.foldl_nil, List.getD_eq_getElem?_getD, List.getElem?_set_self (by simp)]
  rfl
theorem want_last (hR : RowsAt L) (hn : node < L.length) : (wantM L kvs node (node + 1)).getD node false = true := by
  rw [wantM_keep hR hn (j := 0) (by omega) (by omega) (Nat.le_refl _)]
  exact want_node
/-- the parts of a wanted node that has no place are wanted -/
theorem want_parts (hR : RowsAt L) (hn : node < L.length) {i : Nat} {k : NestedKey} (hi : i ≤ node) (hk : L[i]? = some k) (hw : (wantM L kvs node (node + 1)).getD i false = true) (hp : inK kvs i = false) :
    ∀ m : Nat, (m : Int) ∈ partsOf k → (wantM L kvs node (node + 1)).getD m false = true := fun m hm => by
  have hlt := (parts_ahead hR hk _ hm).2
  rw [wantM_keep hR hn (j := node - i) (by omega) (by omega) (Nat.le_refl _)] at hw
  have hst := wantM_succ L kvs node (node - i)
  rw [show node - (node - i) = i by omega] at hst
  unfold wStep at hst
  rw [hw, hp, if_pos (by decide), show L.getD i .none = k by rw [List.getD_eq_getElem?_getD, hk]; rfl] at hst
  have hin : (wantM L kvs node (node - i + 1)).getD m false = true := by
    rw [hst]
    exact putAll_in _ _ hm (by rw [wantM_len]; omega)
  have up : ∀ n, node - i + 1 ≤ n → (wantM L kvs node n).getD m false = true := fun n hn' => by
    induction n with
    | zero => omega
    | succ n ih =>
      by_cases e : node - i + 1 = n + 1
      · rw [← e]; exact hin
      · rw [wantM_succ]
        unfold wStep
        split
        · exact putAll_mono _ _ (ih (by omega))
        · exact ih (by omega)
  exact up _ (by omega)
/-- all that is wanted is marked -/
theorem want_marked (hR : RowsAt L) (hn : node < L.length) (hs : ∀ i : Nat, inK kvs i = false → (i : Int) ∉ seen) (hm : (marksL L seen).getD node false = true) : ∀ (k i : Nat), k ≤ node + 1 → (wantM L kvs node k).getD i false = true → i ≤ node ∧ (marksL L seen).getD i false = true
  | 0, i, _, h => by
    unfold wantM at h
    rw [List.range_zero, List.foldl_nil, List.getD_eq_getElem?_getD] at h
    by_cases e : node = i
    · subst e
      exact ⟨Nat.le_refl _, hm⟩
    · rw [List.getElem?_set_ne e] at h
      rw [List.getElem?_replicate] at h
      split at h <;> cases h
  | k + 1, i, hk, h => by
    rw [wantM_succ] at h
    unfold wStep at h
    split at h
    · rename_i hc
      rw [Bool.and_eq_true] at hc
      have ih := want_marked hR hn hs hm k (node - k) (by omega) hc.1
      have hns : ((node - k : Nat) : Int) ∉ seen := hs _ (by simpa using hc.2)
      obtain ⟨o, ns, e, _, hps⟩ := marked_op hR (by omega) ih.2 hns
      have hgd : L.getD (node - k) .none = .tup [.text "op", .text o, .tup (ns.map .num)] := by
        rw [List.getD_eq_getElem?_getD, e]
        rfl
      have hpo : partsOf (.tup [.text "op", .text o, .tup (ns.map .num)]) = ns := by
        show (ns.map NestedKey.num).map numOf = ns
        rw [List.map_map, show numOf ∘ NestedKey.num = id from rfl, List.map_id]
      rw [hgd, hpo] at h
      rcases putAll_out _ _ (fun p hp => by obtain ⟨m, rfl, _⟩ := hps p hp; omega) h with h | h
      · exact want_marked hR hn hs hm k i (by omega) h
      · obtain ⟨m, e1, e2, e3⟩ := hps _ h
        have : i = m := by omega
        subst this
        exact ⟨by omega, e3⟩
    · exact want_marked hR hn hs hm k i (by omega) h
end
end Rs

set_option Elab.async false
set_option linter.all false
set_option maxRecDepth 100000
set_option maxHeartbeats 4000000
/-! for i, x in enumerate(a tuple) -/
namespace Rs
open PySem L2 PySem.Spec PyProof.Rows
open PySem.Sem (wp)
theorem enum_new1 {v : Value} {o : Obj} {G : Heap → Prop} (B : Begins v o G) :
    Meets (Builtin.«enumerate.__new__» ⟨[.type "enumerate", v], []⟩) (fun _ R s => G s.heap ∧
      R (.ok (.ret (.ref (s.heap.push o).objs.size))) { s with heap := (s.heap.push o).push { cls := .type "enumerate", data := .fields #[.none, .bool false, .ref s.heap.objs.size, rawInt 0, .none, .none] } }) :=
  .of_wp fun prog w A R s h => by
    obtain ⟨hp, gn, dn, tk, os⟩ := s
    obtain ⟨h1, h⟩ := h
    have hsub := sub_enumerate
    have q1 : ∀ {A' : Around} {E : Value → Shared → Prop} {Q : Value → Shared → Prop}, Q (.ref hp.objs.size) ⟨hp.push o, gn, dn, tk, os⟩ → wpAny (model prog w) A' (pyIter v) Q E ⟨hp, gn, dn, tk, os⟩ :=
      fun q => B.iter prog w _ _ ⟨hp, gn, dn, tk, os⟩ _ h1 q
    wp_walk using q1
    refine wpAny_stack_any fun st => wpAny_pure ?_
    split
    · rename_i c _ _ _ _ _
      cases (c == Value.type "enumerate") <;> (wp_walk using q1; exact ⟨_, rfl, h⟩)
    · wp_walk using q1
      exact ⟨_, rfl, h⟩
theorem call_enum1 {prog : Program} {w : World} {A : Around} {E : Value → Shared → Prop} {s : Shared} {v : Value} {o : Obj} {G : Heap → Prop} {Q : Value → Shared → Prop} (B : Begins v o G) (h1 : G s.heap)
    (h : ∀ h', IsEnum h' (s.heap.objs.size + 1) s.heap.objs.size 0 .none → h'.get? s.heap.objs.size = some o → h'.objs.size = s.heap.objs.size + 2 →
      (∀ b o, s.heap.get? b = some o → h'.get? b = some o) → Q (.ref (s.heap.objs.size + 1)) { s with heap := h' }) :
    wpAny (model prog w) A (call (.type "enumerate") [v]) Q E s := by
  refine callType_new F.called_enumerate (by decide) (F.typeCall_enumerate_1 _) (F.newCall_enumerate_1 _) (fun obj => F.args_object_init_2 obj _) F.entry_enumerate_new (enum_new1 B) ⟨h1, ?_⟩
  have hz : (s.heap.push o).objs.size = s.heap.objs.size + 1 := Heap.size_push ..
  have he : IsEnum ((s.heap.push o).push { cls := .type "enumerate", data := .fields #[.none, .bool false, .ref s.heap.objs.size, rawInt 0, .none, .none] }) (s.heap.objs.size + 1) s.heap.objs.size 0 .none := by
    have e := Heap.get?_push_size (s.heap.push o) (o := { cls := .type "enumerate", data := .fields #[.none, .bool false, .ref s.heap.objs.size, rawInt 0, .none, .none] }) rfl
    rw [hz] at e
    exact e
  show _ ∧ _
  rw [hz]
  exact ⟨⟨_, he, rfl⟩, h _ he (Heap.get?_push_of_some _ (Heap.get?_push_size _ B.free)) (by rw [Heap.size_push, hz]) fun b u x => Heap.get?_push_of_some _ (Heap.get?_push_of_some _ x)⟩
/-- the tuple at a, each item with its place in a new pair -/
def IteT (K : PySem.W.Frag) (a : Addr) : It :=
  ⟨fun i H => ∃ (xs : List V) (x : V), SqT K H a xs ∧ xs[i]? = some x, fun i H v H' => ∃ tp x, v = .ref tp ∧ H tp = none ∧ H' = upd H tp (.tup [.int (i : Nat), x]) ∧ ∀ xs, SqT K H a xs → xs[i]? = some x, fun i H => ∃ xs : List V, SqT K H a xs ∧ xs.length = i⟩
theorem two_of {b e it : Addr} (h : b ∈ [e, it]) : b = e ∨ b = it := by simpa using h
theorem turn_enumT {P : Program} {w : World} {K : PySem.W.Frag} {elts : List Expr} {kk : Nat} {tpos : Pos} (a e it : Addr) :
    Turn P w K (.Tuple elts kk tpos) (IteT K a) [e, it] e (fun i h => (∃ old, IsEnum h e it ((i : Nat) : Int) old) ∧ h.IsTupleIter it a i ∧ e ≠ it) where
  mem := List.mem_cons_self
  obj := fun i h ⟨⟨old, he⟩, ⟨o, ho, hc, hd⟩, _⟩ b hb => by
    rcases two_of hb with rfl | rfl
    · exact ⟨_, he, fun v q => nomatch q⟩
    · exact ⟨o, ho, fun v q => by rw [hd] at q; cases q⟩
  keep := fun i h h' ⟨⟨old, he⟩, hi, hne⟩ k => ⟨⟨old, k e List.mem_cons_self _ he⟩, hi.at fun o q => k it (List.mem_cons_of_mem _ List.mem_cons_self) o q, hne⟩
  item := by
    intro X hP hw hK hc i pins s σ H E I hf st hg
    subst hP hw hK
    obtain ⟨⟨old, he⟩, hit, hne⟩ := st
    obtain ⟨xs, x, hq, hx⟩ := hg
    obtain ⟨its, rv, ht, hz⟩ := I.tuple hq
    obtain ⟨u, hu, ru⟩ := rv.get hx
    have dh : X.A.in1.handled = none := I.ok.hd hc
    have ht' : s.heap.IsTuple a its.toArray := ht
    have tn : a ≠ it := fun z => by
      obtain ⟨o1, h1, c1, _⟩ := hit
      obtain ⟨o2, h2, c2, _⟩ := ht
      rw [z, h1] at h2
      cases h2
      rw [c1] at c2
      simp at c2
    have en : e ≠ a := fun z => by
      obtain ⟨o2, h2, c2, _⟩ := ht
      rw [← z, he] at h2
      cases h2
      simp at c2
    have hlt : i < its.toArray.size := by
      have := (List.getElem?_eq_some_iff.mp hu).1
      simpa using this
    refine wpAny_pyNext_enum_itemD (Draws.tuple dh it a tn its.toArray) he ⟨hit, ht'⟩ hlt hne (fun z => ?_) fun x' h' tk px ho st' hT hsz hk => ?_
    · simp only [List.mem_cons, List.not_mem_nil, or_false] at z
      rcases z with z | z
      · exact hne z
      · exact en z
    · have ex : x' = u := by
        have q : its[i]? = some x' := by simpa using px
        rw [hu] at q
        exact (Option.some.inj q).symm
      subst ex
      have lte : e < s.heap.objs.size := Heap.lt_size he
      have lti : it < s.heap.objs.size := by
        obtain ⟨_, q, _⟩ := hit
        exact Heap.lt_size q
      refine ⟨_, rfl, wpAny_letOwnedTupleGo_enum (s := { s with heap := h', toks := tk + 1 }) ho fun h2 he2 sb => ?_⟩
      have hT2 : h2.get? s.heap.objs.size = some { cls := .type "tuple", data := .seq #[.int i tk, x'] } := (sb.2 _ (Nat.ne_of_gt lte)).trans hT
      have fits : ObjOk X.prog X.w (upd H s.heap.objs.size (.tup [.int (i : Nat), x])) h2 s.heap.objs.size (.tup [.int (i : Nat), x]) :=
        ⟨by show 2 ≤ sizeLine; decide, [.int i tk, x'], .cons ⟨_, rfl⟩ (.cons ru .nil), ⟨_, hT2, rfl, _, rfl⟩⟩
      have I2 : Inv X pins σ (upd H s.heap.objs.size (.tup [.int (i : Nat), x])) { s with heap := h2, toks := tk + 1 } :=
        I.turnedNew (ch := [e, it]) (fun b ob hb q => (sb.2 b (fun z => hb (by rw [z]; exact List.mem_cons_self))).trans (hk b ob (fun z => hb (by rw [z]; exact List.mem_cons_self)) (fun z => hb (by rw [z]; exact List.mem_cons_of_mem _ List.mem_cons_self)) q)) hf (Nat.le_refl _) fits
      refine ⟨.ref s.heap.objs.size, _, I2, rfl, ⟨_, x, rfl, I.hok.fresh (Nat.le_refl _), rfl, fun ys hy => ?_⟩, ⟨⟨x', ?_⟩, st'.1.at fun o q => (sb.2 it (Ne.symm hne)).trans q, hne⟩, fun b hb => ?_⟩
      · rw [I.tuple_inj hy hq]
        exact hx
      · rw [show ((i + 1 : Nat) : Int) = (i : Int) + 1 by omega]
        exact he2
      · have lb : b < s.heap.objs.size := by
          rcases two_of hb with rfl | rfl
          · exact lte
          · exact lti
        rw [upd_ne (Nat.ne_of_lt lb)]
        exact (hf b hb).1
  done := by
    intro X hP hw hK hc i pins s σ H E I hf st hg
    subst hP hw hK
    obtain ⟨⟨old, he⟩, hit, hne⟩ := st
    obtain ⟨xs, hq, hx⟩ := hg
    obtain ⟨its, rv, ht, hz⟩ := I.tuple hq
    have dh : X.A.in1.handled = none := I.ok.hd hc
    have ht' : s.heap.IsTuple a its.toArray := ht
    have tn : a ≠ it := fun z => by
      obtain ⟨o1, h1, c1, _⟩ := hit
      obtain ⟨o2, h2, c2, _⟩ := ht
      rw [z, h1] at h2
      cases h2
      rw [c1] at c2
      simp at c2
    have hsz : its.toArray.size = i := by
      rw [← hx, rv.length]
      simp
    obtain ⟨f0, f1, f2, f3, f4, f5⟩ := hf it (List.mem_cons_of_mem _ List.mem_cons_self)
    exact wpAny_pyNext_enum_endD (Draws.tuple dh it a tn its.toArray) he (by rw [hsz]; exact ⟨hit, ht'⟩) fun h' eb => ⟨rfl, I.turned (t' := s.toks) (fun b o hb q => eb b o hb q) f0 f1 f3 f4 f5⟩
  self := fun A i s Q E st h => let ⟨⟨_, he⟩, _⟩ := st; wpAny_pyIter_enum he h
def iEnumT (K : PySem.W.Frag) (ta : TA) : TI := fun σ H R => ta σ H fun vs H1 => ∃ a xs, vs = [.ref a] ∧ SqT K H1 a xs ∧ R (IteT K a) H1
theorem pi_enumT {X : Cx} {e : Expr} {ta : TA} {p pos tpos : Pos} {elts : List Expr} {kk : Nat} (hg : Gl X "enumerate") (hm : X.mg "enumerate" = none) (ha : PA X [e] ta) (hs : starEach [e] X.env = [(false, eval e X.env)] := by rfl) :
    PI X (.Tuple elts kk tpos) (.Call (.Name "enumerate" p) [e] [] pos) (iEnumT X.K ta) := by
  refine ⟨fun pins s σ H R I h => Call_ (ld_blt I hg hm boot_enumerate (PyProof.Rows.callWith_type1 (thn (ha.run pos pins s σ H _ I h) fun us s1 ⟨vs, H1, I1, r1, a, xs, ex, hq, q⟩ => ?_) hs rfl))⟩
  subst ex
  cases r1 with
  | cons r rr =>
    cases rr
    cases r
    obtain ⟨its, rv, ht, hz⟩ := I1.tuple hq
    refine call_enum1 (begins_tuple a its.toArray) (show s1.heap.IsTuple a its.toArray from ht) fun h' he ho hsz hk => wpAny_pyIter_enum he ?_
    have hit : h'.IsTupleIter s1.heap.objs.size a 0 := ⟨_, ho, rfl, rfl⟩
    refine ⟨s1.heap.objs.size + 1, [s1.heap.objs.size + 1, s1.heap.objs.size], _, _, H1, rfl, I1.kept (t' := s1.toks) hk, turn_enumT a (s1.heap.objs.size + 1) s1.heap.objs.size, ⟨⟨.none, he⟩, hit, Nat.succ_ne_self _⟩, fun b hb => ?_, q⟩
    have lb : s1.heap.objs.size ≤ b := by
      rcases two_of hb with rfl | rfl
      · exact Nat.le_add_right _ _
      · exact Nat.le_refl _
    exact I1.fpOk lb (I1.hok.fresh lb)
theorem walk_enumT {K : PySem.W.Frag} {a : Addr} {xs : List V} : Walk (IteT K a) xs.length (fun H => SqT K H a xs) (YPair (fun i => some (.int (i : Nat))) (fun i => xs[i]?)) := by
  refine ⟨fun i H hi q => ⟨xs, xs[i], q, by simp [hi]⟩, fun H q => ⟨xs, q, rfl⟩, fun i H v H' _ q y => ?_⟩
  obtain ⟨tp, x, h1, h2, h3, h4⟩ := y
  exact ⟨tp, .int (i : Nat), x, h1, h2, h3, rfl, h4 xs q⟩
theorem w_forET {K : PySem.W.Frag} {t : TA} {g : TG} {tb : TS} {D : Ends} {σ : L2.St} {H : Hp} (k : t σ H fun vs H1 => ∃ a xs, vs = [.ref a] ∧ SqT K H1 a xs ∧ ForG (IteT K a) g tb D σ H1) : tFor (iEnumT K t) g tb D σ H := k
end Rs

set_option Elab.async false
set_option linter.all false
set_option maxRecDepth 100000
set_option maxHeartbeats 4000000
/-! recipe_of -/
namespace Rs
open PySem L2 PySem.Spec PyProof.Rows
local macro_rules | `(tactic| walk_at "rs ne") => `(tactic| first | assumption | (apply Ne.symm; assumption) | (apply ne_n1; assumption; walk_at "rs hp") | (apply ne_n2; assumption; walk_at "rs hp"))
local macro_rules | `(tactic| walk_at "rs hp") => `(tactic| first | assumption | exact upd_same | (apply hp_ne; (walk_at "rs ne"); (walk_at "rs hp")))
local macro_rules | `(tactic| walk_at "rs sq") => `(tactic| first | assumption | (apply SqL.of; walk_at "rs hp") | (apply SqT.of; walk_at "rs hp"))
local macro_rules | `(tactic| walk_at "rs sz") => `(tactic| first | decide | (rw [sizeLine_eq]; simp; done) | (rw [sizeLine_eq]; simp; omega) | (rw [sizeLine_eq]; omega))
local macro_rules | `(tactic| walk_at "rs ar") => `(tactic| first | assumption | (show (0 : Int) < _; first | assumption | decide | omega) | exact Or.inr ⟨by decide, by decide⟩ | exact Or.inl ⟨by decide, by decide⟩ | exact Or.inl ⟨by omega, by omega⟩ | exact Or.inr ⟨by omega, by omega⟩ | exact ⟨by decide, by decide, by decide⟩ | exact ⟨by decide, by decide⟩ | exact ⟨by omega, by omega⟩)
local macro_rules | `(tactic| walk_at "rs r1") => `(tactic| with_reducible (first | refine w_var rfl ?_ | refine w_c ?_ | refine w_op ?_ | refine w_un ?_ | refine w_test ?_ | refine w_B ?_ | refine w_bool ?_ | refine w_not ?_ | refine w_cb ?_ | refine w_nil ?_ | refine w_cons ?_ | refine w_asg ?_ | refine w_name ?_ | refine w_seq ?_ | refine w_ret ?_ | refine w_drop ?_ | refine w_next ?_ | refine w_ifS ?_ | refine w_I0 ?_ | refine w_eqI ?_ | refine w_neI ?_ | refine w_int ?_ | refine w_abs ?_ | refine w_sl ?_ | refine w_part ?_ | refine w_intO ?_ | refine w_nopart ?_ | refine w_gsub ?_ | refine w_augS ?_ | refine w_ip ?_ | refine w_lst ?_ | refine w_tup ?_ | refine w_if ?_ | refine w_and ?_ | refine w_or ?_ | refine w_tfld ?_ | refine w_forL ?_ | refine w_forT ?_ | refine w_forR1 ?_ | refine w_forR2 ?_ | refine w_forE ?_ | refine w_lcL ?_ | refine w_lcR1 ?_ | refine w_bm ?_ | refine w_call ?_ | refine w_meth ?_ | refine w_nget ?_ | refine w_nin ?_ | refine w_nput ?_ | refine w_eqS ?_ | refine w_neS ?_))
local macro_rules | `(tactic| walk_at "rs r2") => `(tactic| first | (walk_at "rs r1") | ((with_reducible refine' w_ixL ?h1 ?h2 ?h3); (case h1 => walk_at "rs sq"); (case h2 => first | rfl | exact atI_nat (j := 0) rfl | exact atI_nat (j := 1) rfl | exact atI_nat (j := 2) rfl)) | ((with_reducible refine' w_ixT ?h1 ?h2 ?h3); (case h1 => walk_at "rs sq"); (case h2 => first | rfl | exact atI_nat (j := 0) rfl | exact atI_nat (j := 1) rfl | exact atI_nat (j := 2) rfl)) | ((with_reducible refine' w_cutL ?h1 ?_); (case h1 => walk_at "rs sq"); intro q hq) | ((with_reducible refine' w_cat ?h1 ?h2 ?h3 ?_); (case h1 => walk_at "rs hp"); (case h2 => walk_at "rs hp"); (case h3 => walk_at "rs sz"); intro q hq) | ((with_reducible refine' w_small ?h1 ?_); (case h1 => exact Nat.le_of_ble_eq_true rfl); intro q hq) | ((with_reducible refine' w_setL ?h1 ?h2 ?_); (case h1 => walk_at "rs hp"); (case h2 => rfl)) | ((with_reducible refine' w_getL ?h0 ?h1 ?h2 ?_); (case h0 => rfl); (case h1 => walk_at "rs sq"); (case h2 => rfl)) | ((with_reducible refine' w_lenL ?h1 ?_); (case h1 => walk_at "rs sq")) | ((with_reducible refine' w_lenT ?h1 ?_); (case h1 => walk_at "rs sq")) | ((with_reducible refine' w_fld ?h1 ?h2 ?h3 ?h4 ?_); (case h1 => assumption); (case h2 => assumption); (case h3 => walk_at "rs hp"); (case h4 => assumption)) | ((with_reducible refine' w_methAt ?h1 ?h2 ?_); (case h1 => walk_at "rs hp"); (case h2 => assumption)) | ((with_reducible refine' w_tyL ?h1 ?_); (case h1 => walk_at "rs sq")) | ((with_reducible refine' w_append ?h1 ?h2 ?_); (case h1 => walk_at "rs hp"); (case h2 => assumption)) | ((with_reducible refine' w_I ?h1 ?_); (case h1 => walk_at "rs ar")))
local macro_rules | `(tactic| walk_at "rs rd") => `(tactic| repeat (walk_at "rs r2"))
abbrev sRecipe : Stmt := top 9
structure Txt3 (mg : Str → Option Value) : Prop where
  all : mg "all" = none
  range : mg "range" = none
  enumerate : mg "enumerate" = none
theorem putK_le {κ : Type} [DecidableEq κ] (kvs : List (κ × V)) (k : κ) (v : V) : (putK kvs k v).length ≤ kvs.length + 1 := by
  unfold putK
  split <;> simp
theorem not_in2 {a p q : Addr} (h : a ≠ p) (k : a ≠ q) : a ∉ [p, q] := fun z => by
  simp only [List.mem_cons, List.not_mem_nil, or_false] at z
  rcases z with z | z
  · exact h z
  · exact k z
theorem nks_nums {H : Hp} : ∀ idx : List Nat, NKs H (idx.map fun i : Nat => NestedKey.num (i : Int)) (idx.map fun i : Nat => V.int (i : Int))
  | [] => .nil
  | i :: r => .cons (.num _) (nks_nums r)
theorem w_dput {td ty tv : TE} {D : Ends} {σ : L2.St} {H : Hp} (k : tv σ H fun v H1 => td σ H1 fun x H2 => ty σ H2 fun y H3 => ∃ a H4, x = .ref a ∧ DPut H3 a y v H4 ∧ D.nx σ H4) : sDPut td ty tv D σ H := k
theorem w_dget {td ty : TE} {σ : L2.St} {H : Hp} {Q : VK} (k : td σ H fun x H1 => ty σ H1 fun y H2 => ∃ a v, x = .ref a ∧ DGet H2 a y (some v) ∧ Q v H2) : tDGet td ty σ H Q := k
theorem w_din {ty td : TE} {σ : L2.St} {H : Hp} {Q : VK} (k : ty σ H fun y H1 => td σ H1 fun x H2 => ∃ a o, x = .ref a ∧ DGet H2 a y o ∧ Q (.bl o.isSome) H2) : tDIn ty td σ H Q := k
theorem wantL_sorted (L : List NestedKey) (kvs : List (Key × V)) (node n : Nat) : (wantL L kvs node n).Pairwise (· < ·) := List.Pairwise.filter _ List.pairwise_lt_range
theorem wantL_few (L : List NestedKey) (kvs : List (Key × V)) (node n : Nat) : (wantL L kvs node n).length ≤ n := by
  have := List.length_filter_le (fun i => (wantM L kvs node (node + 1)).getD i false) (List.range n)
  rw [List.length_range] at this
  exact this
theorem wantL_mem {L : List NestedKey} {kvs : List (Key × V)} {node n h : Nat} : h ∈ wantL L kvs node n ↔ h < n ∧ (wantM L kvs node (node + 1)).getD h false = true := by
  unfold wantL
  rw [List.mem_filter, List.mem_range]
theorem sorted_lt {W : List Nat} (h : W.Pairwise (· < ·)) {i j a b : Nat} (hi : W[i]? = some a) (hj : W[j]? = some b) (hab : a < b) : i < j := by
  obtain ⟨h1, rfl⟩ := List.getElem?_eq_some_iff.mp hi
  obtain ⟨h2, rfl⟩ := List.getElem?_eq_some_iff.mp hj
  by_cases e : i < j
  · exact e
  · by_cases e2 : i = j
    · subst e2
      omega
    · have := List.pairwise_iff_getElem.mp h j i h2 h1 (by omega)
      omega
theorem wantL_last {L : List NestedKey} {kvs : List (Key × V)} {node : Nat} (h : (wantM L kvs node (node + 1)).getD node false = true) : (wantL L kvs node (node + 1)).getLast? = some node := by
  unfold wantL
  rw [List.range_succ, List.filter_append, List.filter_cons, if_pos h]
  simp
/-- one step of a recipe -/
def StepAt (L : List NestedKey) (seen : List Int) (W : List Nat) (j h : Nat) (k : NestedKey) : Prop :=
  (∃ m : Nat, seen[m]? = some (h : Int) ∧ k = .tup [.text "seen", .num (m : Int)]) ∨
  ∃ (o : Str) (ns : List Int) (idx : List Nat), L[h]? = some (.tup [.text "op", .text o, .tup (ns.map .num)]) ∧ k = .tup [.text "op", .text o, .tup (idx.map fun i : Nat => .num (i : Int))] ∧ idx.length = ns.length ∧
    ∀ (t : Nat) (i : Nat), idx[t]? = some i → i < j ∧ ∃ p : Nat, W[i]? = some p ∧ ns[t]? = some (p : Int)
def StepsOk (L : List NestedKey) (seen : List Int) (W : List Nat) (st : List NestedKey) : Prop := st.length = W.length ∧ ∀ (j h : Nat) (k : NestedKey), W[j]? = some h → st[j]? = some k → StepAt L seen W j h k
theorem w_dnew {σ : L2.St} {H : Hp} {Q : VK} (k : ∀ p, H p = none → Q (.ref p) (upd H p (.dK []))) : tDNewK σ H Q := k
theorem w_dsetd {td ty tx : TE} {σ : L2.St} {H : Hp} {Q : VK} (k : td σ H fun x H1 => ∃ a, x = .ref a ∧ IsD H1 a ∧ ty σ H1 fun y H2 => tx σ H2 fun z H3 => ∃ (kvs : List (Key × V)) (k : Key), H3 a = some (.dK kvs) ∧ y = kV k ∧ kvs.length < sizeLine ∧
  (∀ v, valV kvs k = some v → Q v H3) ∧ (valV kvs k = none → Q z (upd H3 a (.dK (putK kvs k z))))) : tDSetd td ty tx σ H Q := k
/-- the places of seen nodes -/
def PlOk (seen : List Int) (kvs : List (Key × V)) : Prop := (∀ (n : Int) (v : V), valV kvs (.inl n) = some v → ∃ k : Nat, v = .int (k : Int) ∧ seen[k]? = some n) ∧ ∀ n : Int, valV kvs (.inl n) = none → n ∉ seen
def spRecipe (P : Program) (w : World) (C : Addr) : Sp := fun vs H Q _ => ∃ (g sn l d : Addr) (L : List NestedKey) (seen : List Int) (node : Nat), vs = [.ref g, .ref sn, .int (node : Int)] ∧ GraphAt P w C H g l d L ∧ H sn = some (.tup (seen.map V.int)) ∧ (∀ s ∈ seen, 0 ≤ s ∧ s < (L.length : Int)) ∧ RowsAt L ∧ node < L.length ∧ seen.length ≤ 100 ∧
  ((marksL L seen).getD node false = false → ∀ H', Fm [] H H' → Q .non H') ∧
  ((marksL L seen).getD node false = true → ∀ (p : Addr) (W : List Nat) (st : List NestedKey) (H' : Hp), W.length ≤ L.length → W.getLast? = some node → StepsOk L seen W st → NK H' (.tup st) (.ref p) → Fm [] H H' → Q (.ref p) H')
section
variable {P : Program} {w : World} {K : PySem.W.Frag} {mg : Str → Option Value} {base : Heap} {C CT fT CN : Addr}
theorem scRecipe : FnScope ["graph", "nodes", "node", "places", "k", "seen", "steps", "at", "here", "part"] ["graph", "nodes", "node"] (defScope sRecipe) := ⟨rfl, rfl, rfl, by decide +kernel, rfl, by decide +kernel, by decide +kernel⟩
theorem ok_recipe {f fIs fPa fOp fMk fWa : Addr} {fd fdIs fdPa fdOp fdMk fdWa : FuncData} (F : Fun K "recipe_of" "recipe_of" sRecipe f fd) (T : TxtG P K mg C CT fT CN) (T2 : Txt3 mg)
    (GIs : FnOk P w K mg base (L2.CX P w) 3 fIs fdIs ["self", "n"] (spIsL P w C CN)) (bIs : Binds K fdIs ["self", "n"] []) (mIs : Meth K C "is_letter" fIs)
    (GPa : FnOk P w K mg base (L2.CX P w) 3 fPa fdPa ["self", "n"] (spParts P w C CN)) (bPa : Binds K fdPa ["self", "n"] []) (mPa : Meth K C "parts_of" fPa)
    (GOp : FnOk P w K mg base (L2.CX P w) 3 fOp fdOp ["self", "n"] (spKey P w C CN "op")) (bOp : Binds K fdOp ["self", "n"] []) (mOp : Meth K C "op_of" fOp)
    (GMk : FnOk P w K mg base CX0 4 fMk fdMk ["graph", "nodes"] (spMarks P w C)) (mMk : mg "built_marks" = some (.ref fMk)) (kMk : PySem.W.keepIn K (.ref fMk) = true) (bMk : Binds K fdMk ["graph", "nodes"] [])
    (GWa : FnOk P w K mg base CX0 4 fWa fdWa ["graph", "places", "node"] (spWanted P w C)) (mWa : mg "wanted_nodes" = some (.ref fWa)) (kWa : PySem.W.keepIn K (.ref fWa) = true) (bWa : Binds K fdWa ["graph", "places", "node"] []) :
    FnOk P w K mg base CX0 5 f fd ["graph", "nodes", "node"] (spRecipe P w C) := by
  refine F.ok scRecipe (fun vs H Q E h => ?_) (fun cdv A outer s H vs Q E hr h => ?_)
  · obtain ⟨g, sn, l, d, L, seen, node, rfl, _⟩ := h
    rfl
  · obtain ⟨g, sn, l, d, L, seen, node, rfl, G, hsn, hse, hR, hno, hsl, k0, k1⟩ := h
    have nd := scRecipe.nd
    have hu1 := hu_of hr
    refine ⟨_, (pss_cons (ps_expr (pe_meth (E := E0) (pv 0) T.cl mIs GIs (hr.mono (by decide)) bIs .nil (passes_call LamX.takes0 fun _ _ _ _ h => h) (pa_cons (pv 2) pa_nil))) (pss_cons (ps_if (pt_not (pt_val (pe_ix ix_list (pe_call (E := E0) GMk (hr.mono (by decide)) rfl mMk kMk bMk .nil pass0 (pa_cons (pv 0) (pa_cons (pv 1) pa_nil))) (pv 2) (fun _ _ => rfl)))) (pss_one (ps_ret pe_non)) pss_nil) (pss_cons (ps_set (i := 3) nd rfl (Or.inl rfl) pe_dnewK) (Evl.pss_cut (ps_for PassesOwn.never rfl (pi_enumT rfl T2.enumerate (pa_cons (pv 1) pa_nil)) (pg_tup rfl (pgs_cons (pg_name (i := 4) nd rfl (Or.inl rfl)) (pgs_cons (pg_name (i := 5) nd rfl (Or.inl rfl)) pgs_nil))) (pss_one (ps_expr (pe_dsetd (pv 3) (pv 5) (pv 4) ⟨rfl, rfl, rfl, rfl⟩)))) (pss_cons (ps_set (i := 6) nd rfl (Or.inl rfl) (pe_lst pa_nil)) (pss_cons (ps_set (i := 7) nd rfl (Or.inr rfl) pe_dnewK) (Evl.pss_cut (ps_for PassesOwn.never rfl (pi_list (pe_call (E := E0) GWa (hr.mono (by decide)) rfl mWa kWa bWa .nil pass0 (pa_cons (pv 0) (pa_cons (pv 3) (pa_cons (pv 2) pa_nil))))) (pg_name (i := 8) nd rfl (Or.inl rfl)) (pss_cons (ps_dput hu1 (pv 7) (pv 8) (pe_callB c_len (by rfl) T.len PySem.boot_len (pa_cons (pv 6) pa_nil)) (by rfl)) (pss_one (ps_if (pt_cmp (pc_din hu1 (pv 8) (pv 3))) (pss_one (ps_expr (pe_bm PySem.F.plainAttrs_list PySem.F.slot_list_append PySem.F.type_list_append mt_append (pv 6) (pa_cons (pe_tup (pa_cons pe_str (pa_cons (pe_dget hu1 (pv 3) (pv 8) (fun _ _ => rfl)) pa_nil))) pa_nil)))) (pss_one (ps_expr (pe_bm PySem.F.plainAttrs_list PySem.F.slot_list_append PySem.F.type_list_append mt_append (pv 6) (pa_cons (pe_tup (pa_cons pe_str (pa_cons (pe_meth (E := E0) (pv 0) T.cl mOp GOp (hr.mono (by decide)) bOp .nil (passes_call LamX.takes0 fun _ _ _ _ h => h) (pa_cons (pv 8) pa_nil)) (pa_cons (pe_callTy call_tuple_of (by rfl) T.tuple (by decide +kernel) (pa_cons (pe_lc (own := [("part", 9)]) (g := gName 9) (tt := tYes) rfl nd (pi_tup (pe_meth (E := E0) (pv 0) T.cl mPa GPa (hr.mono (by decide)) bPa .nil (passes_call LamX.takes0 fun _ _ _ _ h => h) (pa_cons (pv 8) pa_nil))) (blkOk_by (N := ["graph", "nodes", "node", "places", "k", "seen", "steps", "at", "here", "part"]) (sc := defScope sRecipe) (by decide +kernel)) (fun _ _ _ _ _ => pg_name (i := 9) nd rfl (Or.inl rfl)) (fun _ _ _ _ _ => pts_nil) (fun _ _ _ _ _ => (pe_dget hu1 (pv 7) (pv 9) (fun _ _ => rfl)))) pa_nil)) pa_nil)))) pa_nil)))))))) (pss_one (ps_ret (pe_callTy call_tuple_of (by rfl) T.tuple (by decide +kernel) (pa_cons (pv 6) pa_nil))))))))))), ?_⟩
    have nIs : (gf l d).lookup ("is_letter" : Str) = none := gf_no _ _ (by decide +kernel) (by decide +kernel)
    have nPa : (gf l d).lookup ("parts_of" : Str) = none := gf_no _ _ (by decide +kernel) (by decide +kernel)
    have nOp : (gf l d).lookup ("op_of" : Str) = none := gf_no _ _ (by decide +kernel) (by decide +kernel)
    have hlen : L.length ≤ 3000 := by
      obtain ⟨_, _, _, _, _, _, _, _, h⟩ := G
      exact h
    have hLp : ∀ k ∈ L, (∃ b, k = .tup [.text "letter", b]) ∨ ∃ o ps, k = .tup [.text "op", .text o, .tup ps] := fun k hk => by
      obtain ⟨j, hj⟩ := List.getElem?_of_mem hk
      obtain ⟨b, rfl⟩ | ⟨o, ns, rfl, _⟩ := hR j k hj
      · exact .inl ⟨_, rfl⟩
      · exact .inr ⟨_, _, rfl⟩
    have hLs : ∀ k ∈ L, ∃ s b r, k = .tup (.text s :: b :: r) := fun k hk => by
      rcases hLp k hk with ⟨b, rfl⟩ | ⟨o, ps, rfl⟩
      · exact ⟨_, _, _, rfl⟩
      · exact ⟨_, _, _, rfl⟩
    obtain ⟨dx0, vs0, hg0, _⟩ := id G
    walk_at "rs rd"
    refine ⟨g, l, d, L, node, rfl, G, fun k hk => (by obtain ⟨s, b, r, e⟩ := hLs k hk; exact ⟨s, _, e⟩), fun i' s r hn hk => ?_, fun z => absurd z (by omega)⟩
    walk_at "rs rd"
    refine ⟨g, sn, l, d, L, seen, rfl, G, hsn, hse, hR, fun q1 H1 hq1 e1 f1 => ?_⟩
    have hml : (marksL L seen).length = L.length := marksL_len L
    have hat : (marksL L seen)[node]? = some ((marksL L seen).getD node false) := by
      rw [List.getD_eq_getElem?_getD, List.getElem?_eq_getElem (by omega)]
      rfl
    walk_at "rs rd"
    refine w_ixL (by walk_at "rs sq") (atI_nat (by rw [List.getElem?_map, hat]; rfl)) ?_
    refine w_bool ?_
    cases hb : (marksL L seen).getD node false with
    | false =>
      rw [if_pos (by decide)]
      walk_at "rs rd"
      exact k0 hb H1 f1
    | true =>
      rw [if_neg (by decide)]
      walk_at "rs rd"
      refine w_dnew fun pl hpl => ?_
      have f2 : Fm [] H (upd H1 pl (.dK [])) := f1.thenNew hpl
      have e2 : upd H1 pl (.dK []) pl = some (.dK []) := upd_same
      have hpl0 : H pl = none := f1.none hpl List.not_mem_nil
      generalize upd H1 pl (.dK []) = H2 at f2 e2 ⊢
      clear hpl e1 hq1 f1
      refine w_name ?_
      refine w_cut (M := fun σ H' => ∃ o4 o5 kvs, σ = [some (.ref g), some (.ref sn), some (.int (node : Int)), some (.ref pl), o4, o5, none, none, none, none] ∧ H' pl = some (.dK kvs) ∧ PlOk seen kvs ∧ Fm [] H H') ?_ ?_
      · refine w_forET ?_
        walk_at "rs rd"
        refine ⟨sn, _, rfl, SqT.of (f2 _ _ hsn List.not_mem_nil), for_it (walk_enumT (xs := seen.map V.int)) (fun i σ H' => ∃ o4 o5 kvs, σ = [some (.ref g), some (.ref sn), some (.int (node : Int)), some (.ref pl), o4, o5, none, none, none, none] ∧ H' pl = some (.dK kvs) ∧ kvs.length ≤ i ∧ PlOk (seen.take i) kvs ∧ Fm [] H H')
          ⟨_, _, [], rfl, e2, Nat.le_refl _, ⟨fun n v e => (by cases e), fun n _ => (by simp)⟩, f2⟩ (fun i σ H' _ ⟨_, _, _, _, _, _, _, f⟩ => SqT.of (f _ _ hsn List.not_mem_nil)) ?_ (fun σ H' ⟨o4, o5, kvs, e, e', _, p, f⟩ => ⟨o4, o5, kvs, e, e', by rw [List.length_map, List.take_length] at p; exact p, f⟩)⟩
        rintro i x σ H3 H4 hi ⟨o4, o5, kvs, rfl, e3, hl3, p3, f3⟩ ⟨ta, x, v, rfl, hta, rfl, hx, hv⟩
        cases hx
        have hv' : (seen.map V.int)[i]? = some v := hv
        rw [List.getElem?_map] at hv'
        obtain ⟨n, hn', rfl⟩ := Option.map_eq_some_iff.mp hv'
        have hil : i < seen.length := (List.getElem?_eq_some_iff.mp hn').1
        have f4 : Fm [] H (upd H3 ta (.tup [.int (i : Int), .int n])) := f3.thenNew hta
        have e4 : upd H3 ta (.tup [.int (i : Int), .int n]) pl = some (.dK kvs) := (Fm.new hta : Fm [] H3 _) _ _ e3 List.not_mem_nil
        refine ⟨ta, _, rfl, SqT.of upd_same, rfl, _, _, rfl, w_name ⟨_, _, rfl, w_name ⟨rfl, ?_⟩⟩⟩
        generalize upd H3 ta (.tup [.int (i : Int), .int n]) = H5 at f4 e4 ⊢
        refine w_drop (w_dsetd (w_var rfl ⟨pl, rfl, .inl ⟨kvs, .inl e4⟩, w_var rfl (w_var rfl ⟨kvs, .inl n, e4, rfl, by rw [sizeLine_eq]; omega, fun v hv2 => ?_, fun hv2 => ?_⟩)⟩))
        · refine ⟨_, _, kvs, rfl, e4, by omega, ⟨fun m u hu => ?_, fun m hm hin => ?_⟩, f4⟩
          · obtain ⟨k, e, hk⟩ := p3.1 m u hu
            refine ⟨k, e, ?_⟩
            have hki : k < i := by
              have := (List.getElem?_eq_some_iff.mp hk).1
              rw [List.length_take] at this
              omega
            rw [List.getElem?_take_of_lt hki] at hk
            rw [List.getElem?_take_of_lt (by omega)]
            exact hk
          · rw [List.take_succ, hn'] at hin
            rcases List.mem_append.mp hin with h | h
            · exact p3.2 m hm h
            · have e : m = n := by simpa using h
              rw [e, hv2] at hm
              cases hm
        · refine ⟨_, _, putK kvs (.inl n) (.int (i : Int)), rfl, upd_same, Nat.le_trans (putK_le _ _ _) (by omega), ⟨fun m u hu => ?_, fun m hm hin => ?_⟩, f4.thenOwn hpl0⟩
          · rw [valV_put] at hu
            split at hu
            · rename_i e
              injection e with e
              cases hu
              exact ⟨i, rfl, by rw [List.getElem?_take_of_lt (by omega), e]; exact hn'⟩
            · obtain ⟨k, e, hk⟩ := p3.1 m u hu
              refine ⟨k, e, ?_⟩
              have hki : k < i := by
                have := (List.getElem?_eq_some_iff.mp hk).1
                rw [List.length_take] at this
                omega
              rw [List.getElem?_take_of_lt hki] at hk
              rw [List.getElem?_take_of_lt (by omega)]
              exact hk
          · rw [valV_put] at hm
            split at hm
            · cases hm
            · rename_i e
              rw [List.take_succ, hn'] at hin
              rcases List.mem_append.mp hin with h | h
              · exact p3.2 m hm h
              · have e' : m = n := by simpa using h
                exact e (by rw [e'])
      · rintro σ H3 ⟨o4, o5, kvs, rfl, e3, p3, f3⟩
        walk_at "rs rd"
        rename_i stl hstl
        refine w_dnew fun atd hat => ?_
        have f4 : Fm [] H (upd (upd H3 stl (.lst [])) atd (.dK [])) := (f3.thenNew hstl).thenNew hat
        have e4 : upd (upd H3 stl (.lst [])) atd (.dK []) pl = some (.dK kvs) := ((Fm.new hstl).thenNew hat : Fm [] H3 _) _ _ e3 List.not_mem_nil
        have npa : pl ≠ atd := ne_of_none ((Fm.new hstl : Fm [] H3 (upd H3 stl (.lst []))) _ _ e3 List.not_mem_nil) hat
        have es4 : upd (upd H3 stl (.lst [])) atd (.dK []) stl = some (.lst []) := by walk_at "rs hp"
        have ea4 : upd (upd H3 stl (.lst [])) atd (.dK []) atd = some (.dK []) := upd_same
        have hst0 : H stl = none := f3.none hstl List.not_mem_nil
        have hat0 : H atd = none := (f3.thenNew hstl).none hat List.not_mem_nil
        generalize upd (upd H3 stl (.lst [])) atd (.dK []) = H4 at f4 e4 es4 ea4 ⊢
        clear hstl hat e3 f3
        refine w_name ?_
        have hin : ∀ i : Nat, inK kvs i = false → (i : Int) ∉ seen := fun i hi => by
          unfold inK at hi
          exact p3.2 _ (by simpa using hi)
        have hwm := want_marked hR hno hin hb (node + 1)
        have hwl := want_last (kvs := kvs) hR hno
        refine w_cut (M := fun σ H' => ∃ o8 refs sts, σ = [some (.ref g), some (.ref sn), some (.int (node : Int)), some (.ref pl), o4, o5, some (.ref stl), some (.ref atd), o8, none] ∧ H' stl = some (.lst refs) ∧ NKs H' sts refs ∧ StepsOk L seen (wantL L kvs node (node + 1)) sts ∧ Fm [] H H') ?_ ?_
        · walk_at "rs rd"
          refine ⟨g, pl, l, d, L, kvs, node, rfl, G.same f4, e4, hno, hR, fun q H5 hq e5 f5 => ?_⟩
          have f6 := f4.trans f5
          have es6 := f5 _ _ es4 List.not_mem_nil
          have ea6 := f5 _ _ ea4 List.not_mem_nil
          have ep6 := f5 _ _ e4 List.not_mem_nil
          have nq1 : q ≠ stl := (ne_of_none es4 hq).symm
          have nq2 : q ≠ atd := (ne_of_none ea4 hq).symm
          have ns : stl ≠ atd := ne_of es6 ea6 (fun z => nomatch z)
          generalize hW : wantL L kvs node (node + 1) = W at e5 ⊢
          have hWs : W.Pairwise (· < ·) := by rw [← hW]; exact wantL_sorted _ _ _ _
          have hWm : ∀ {h : Nat}, h ∈ W ↔ h < node + 1 ∧ (wantM L kvs node (node + 1)).getD h false = true := by rw [← hW]; exact wantL_mem
          have hWl : W.length ≤ 3000 := by
            rw [← hW]
            have := List.length_filter_le (fun i => (wantM L kvs node (node + 1)).getD i false) (List.range (node + 1))
            rw [List.length_range] at this
            unfold wantL
            omega
          refine ⟨q, rfl, ⟨_, SqL.of e5⟩, for_it (walk_list (xs := W.map fun i : Nat => V.int i)) (fun j σ H' => ∃ o8 refs sts akvs, σ = [some (.ref g), some (.ref sn), some (.int (node : Int)), some (.ref pl), o4, o5, some (.ref stl), some (.ref atd), o8, none] ∧ H' stl = some (.lst refs) ∧ NKs H' sts refs ∧ sts.length = j ∧
              (∀ (i h : Nat) (k : NestedKey), W[i]? = some h → sts[i]? = some k → StepAt L seen W i h k) ∧ H' atd = some (.dK akvs) ∧ akvs.length ≤ j ∧ (∀ i h : Nat, i < j → W[i]? = some h → valV akvs (.inl (h : Int)) = some (.int (i : Int))) ∧ Fm [stl, atd] H5 H' ∧ Fm [] H H')
            ⟨_, [], [], [], rfl, es6, .nil, rfl, fun _ _ _ _ e => (by simp at e), ea6, Nat.le_refl _, fun i h hi => absurd hi (Nat.not_lt_zero _), Fm.refl _ _, f6⟩ (fun j σ H' _ ⟨_, _, _, _, _, _, _, _, _, _, _, _, f, _⟩ => SqL.of (f _ _ e5 (fun z => by
              simp only [List.mem_cons, List.not_mem_nil, or_false] at z
              rcases z with z | z
              · exact nq1 z
              · exact nq2 z))) ?_ (fun σ H' ⟨o8, refs, sts, akvs, e, e1, e2, e3, e4, _, _, _, _, f⟩ => ⟨o8, refs, sts, e, e1, e2, ⟨by rw [List.length_map] at e3; exact e3, e4⟩, f⟩)⟩
          rintro j x σ H6 H7 hj ⟨o8, refs, sts, akvs, rfl, es, nks, hsl2, hst, ea, hal, hav, fq, fh⟩ ⟨rfl, hx⟩
          rw [List.getElem?_map] at hx
          obtain ⟨h, hh, rfl⟩ := Option.map_eq_some_iff.mp hx
          rw [List.length_map] at hj
          have hrl : refs.length = j := by rw [← nks.len]; exact hsl2
          have hhW := hWm.mp (List.mem_of_getElem? hh)
          have hhL : h < L.length := by omega
          have nps : pl ≠ stl := ne_of ep6 es6 (fun z => nomatch z)
          have ep7 := fq _ _ ep6 (not_in2 nps npa)
          refine w_name ?_
          walk_at "rs rd"
          refine w_dput ?_
          walk_at "rs rd"
          refine ⟨atd, _, rfl, DPut.k (k := .inl (h : Int)) ea (by rw [sizeLine_eq]; omega), ?_⟩
          rw [hrl]
          have f8 := fh.thenOwn (o := .dK (putK akvs (.inl (h : Int)) (.int (j : Int)))) hat0
          have fq8 := fq.thenPut (o := .dK (putK akvs (.inl (h : Int)) (.int (j : Int)))) (List.mem_cons_of_mem _ List.mem_cons_self)
          have es8 : upd H7 atd (.dK (putK akvs (.inl (h : Int)) (.int (j : Int)))) stl = some (.lst refs) := by rw [upd_ne ns]; exact es
          have ea8 : upd H7 atd (.dK (putK akvs (.inl (h : Int)) (.int (j : Int)))) atd = some (.dK (putK akvs (.inl (h : Int)) (.int (j : Int)))) := upd_same
          have ep8 : upd H7 atd (.dK (putK akvs (.inl (h : Int)) (.int (j : Int)))) pl = some (.dK kvs) := by rw [upd_ne npa]; exact ep7
          have nk8 : NKs (upd H7 atd (.dK (putK akvs (.inl (h : Int)) (.int (j : Int))))) sts refs := NKs.mono (fun a xs e => by
            rw [upd_ne (fun z => by rw [z, ea] at e; cases e)]
            exact e) _ _ nks
          have hav8 : ∀ i b : Nat, i < j + 1 → W[i]? = some b → valV (putK akvs (.inl (h : Int)) (.int (j : Int))) (.inl (b : Int)) = some (.int (i : Int)) := fun i b hi hb2 => by
            rw [valV_put]
            by_cases e : i = j
            · subst e
              rw [hh] at hb2
              cases hb2
              rw [if_pos rfl]
            · have hne : b ≠ h := fun z => by
                subst z
                have h1 := sorted_lt hWs (i := i) (j := j) (a := b) (b := b) hb2 hh
                obtain ⟨u1, u2⟩ := List.getElem?_eq_some_iff.mp hb2
                obtain ⟨u3, u4⟩ := List.getElem?_eq_some_iff.mp hh
                have := List.pairwise_iff_getElem.mp hWs i j u1 u3 (by omega)
                omega
              rw [if_neg (fun z => hne (by injection z with z; omega))]
              exact hav i b (by omega) hb2
          have hal8 : (putK akvs (.inl (h : Int)) (.int (j : Int))).length ≤ j + 1 := Nat.le_trans (putK_le _ _ _) (by omega)
          have hst8 : ∀ (k : NestedKey), StepAt L seen W j h k → ∀ (i b : Nat) (k' : NestedKey), W[i]? = some b → (sts ++ [k])[i]? = some k' → StepAt L seen W i b k' := fun k hk i b k' h1 h2 => by
            by_cases e : i < sts.length
            · rw [List.getElem?_append_left e] at h2
              exact hst i b k' h1 h2
            · have hl := (List.getElem?_eq_some_iff.mp h2).1
              rw [List.length_append, List.length_singleton] at hl
              obtain rfl : i = sts.length := by omega
              rw [List.getElem?_concat_length] at h2
              cases h2
              rw [hsl2] at h1 ⊢
              rw [hh] at h1
              cases h1
              exact hk
          generalize upd H7 atd (.dK (putK akvs (.inl (h : Int)) (.int (j : Int)))) = H8 at f8 fq8 es8 ea8 ep8 nk8 ⊢
          generalize putK akvs (.inl (h : Int)) (.int (j : Int)) = bkvs at ea8 hav8 hal8
          clear es nks hst ea hal hav fq fh ep7
          walk_at "rs rd"
          refine w_din (w_var rfl (w_var rfl ⟨pl, _, rfl, DGet.k (k := .inl (h : Int)) ep8, w_bool ?_⟩))
          cases hv : valV kvs (.inl (h : Int)) with
          | some v =>
            obtain ⟨m, rfl, hm⟩ := p3.1 _ _ hv
            rw [if_pos (show (some (V.int (m : Int))).isSome = true from rfl)]
            walk_at "rs rd"
            refine w_dget (w_var rfl (w_var rfl ⟨pl, _, rfl, hv ▸ DGet.k (k := .inl (h : Int)) ep8, ?_⟩))
            walk_at "rs rd"
            rename_i t ht
            have g9 : Fm [] H8 (upd H8 t (.tup [.str "seen", .int (m : Int)])) := Fm.new ht
            have es9 := g9 _ _ es8 List.not_mem_nil
            refine w_append es9 (by rw [sizeLine_eq]; omega) ?_
            have put : ∀ a xs, upd H8 t (.tup [.str "seen", .int (m : Int)]) a = some (.tup xs) → upd (upd H8 t (.tup [.str "seen", .int (m : Int)])) stl (.lst (refs ++ [.ref t])) a = some (.tup xs) := fun a xs e => by
              rw [upd_ne (fun z => by rw [z, es9] at e; cases e)]
              exact e
            refine ⟨_, refs ++ [.ref t], sts ++ [.tup [.text "seen", .num (m : Int)]], bkvs, rfl, upd_same, NKs.snoc (NK.mono put _ _ (.tup upd_same (.cons (.text _) (.cons (.num _) .nil)))) (NKs.mono put _ _ (NKs.mono (fun a xs e => g9 _ _ e List.not_mem_nil) _ _ nk8)), by rw [List.length_append, List.length_singleton, hsl2], hst8 _ (.inl ⟨m, hm, rfl⟩), ?_, hal8, hav8, (fq8.thenNew ht).thenPut List.mem_cons_self, (f8.thenNew ht).thenOwn hst0⟩
            rw [upd_ne ns.symm]
            exact g9 _ _ ea8 List.not_mem_nil
          | none =>
            rw [if_neg (show ¬ (Option.none : Option V).isSome = true by decide)]
            have hns : (h : Int) ∉ seen := p3.2 _ hv
            obtain ⟨o, ps, hop, h10, hps⟩ := marked_op hR hhL (hwm h (Nat.le_refl _) hhW.2).2 hns
            have hsame : ∀ {i : Nat} {k' : NestedKey}, (h : Int) = (i : Int) → L[i]? = some k' → k' = .tup [.text "op", .text o, .tup (ps.map .num)] := fun {i k'} e1 e2 => by
              obtain rfl : h = i := by omega
              rw [hop] at e2
              exact (Option.some.inj e2).symm
            have hrng : ¬ ((h : Int) < 0 ∨ (L.length : Int) ≤ (h : Int)) := by omega
            have hpo : partsOf (.tup [.text "op", .text o, .tup (ps.map .num)]) = ps := by
              show (ps.map NestedKey.num).map numOf = ps
              rw [List.map_map, show numOf ∘ NestedKey.num = id from rfl, List.map_id]
            have G8 := G.same f8
            obtain ⟨dx8, vs8, hg8, _⟩ := id G8
            walk_at "rs rd"
            refine ⟨g, l, d, L, h, rfl, G8, hLs, fun i b r v hn hk hb2 => ?_, fun i s b r hn hk hs => (by cases hsame hn hk; exact absurd rfl hs), fun z => absurd z hrng⟩
            cases hsame hn hk
            cases hb2
            walk_at "rs rd"
            refine w_lcT ?_
            walk_at "rs rd"
            refine ⟨g, l, d, L, h, rfl, G8, hLp, fun i b hn hk => (by cases hsame hn hk), fun i o' ps' v hn hk hb2 => ?_, fun z => absurd z hrng⟩
            cases hsame hn hk
            cases hb2 with
            | tup epp rpp =>
              have ex := nums_vals rpp
              subst ex
              refine ⟨_, rfl, ⟨_, SqT.of epp⟩, fun D hD => ?_⟩
              have hD0 : H D = none := f8.none hD List.not_mem_nil
              refine lc_it (walk_tup (xs := ps.map V.int)) (fun t H' => ∃ idx : List Nat, idx.length = t ∧ (∀ (t' i : Nat), idx[t']? = some i → i < j ∧ ∃ p : Nat, W[i]? = some p ∧ ps[t']? = some (p : Int)) ∧ H' D = some (.lst (idx.map fun i : Nat => V.int i)) ∧ Fm [] H8 H')
                ⟨[], rfl, fun _ _ e => (by simp at e), upd_same, Fm.new hD⟩ (fun t H' _ ⟨_, _, _, _, f⟩ => SqT.of (f _ _ epp List.not_mem_nil)) ?_ ?_
              · rintro t x H9 H10 ht ⟨idx, hil, hidx, eD, f9⟩ ⟨rfl, hx2⟩
                rw [List.getElem?_map] at hx2
                obtain ⟨p, hp, rfl⟩ := Option.map_eq_some_iff.mp hx2
                rw [List.length_map] at ht
                obtain ⟨m, rfl, hmh, hmm⟩ := hps p (List.mem_of_getElem? hp)
                have hmw := want_parts (kvs := kvs) hR hno (i := h) (by omega) hop hhW.2 (by unfold inK; rw [hv]; rfl) m (by rw [hpo]; exact List.mem_of_getElem? hp)
                obtain ⟨i, hi⟩ := List.getElem?_of_mem (hWm.mpr ⟨by omega, hmw⟩)
                have hij := sorted_lt hWs hi hh hmh
                have ea9 := f9 _ _ ea8 List.not_mem_nil
                refine w_name ⟨rfl, w_yes ?_⟩
                refine w_dget (w_var rfl (w_var rfl ⟨atd, .int (i : Int), rfl, (hav8 i m (by omega) hi) ▸ DGet.k (k := .inl (m : Int)) ea9, ?_⟩))
                refine ⟨_, eD, by rw [List.length_map, sizeLine_eq]; omega, idx ++ [i], by simp [hil], fun t' i' e => ?_, by rw [upd_same, List.map_append]; rfl, f9.thenOwn hD⟩
                by_cases e2 : t' < idx.length
                · rw [List.getElem?_append_left e2] at e
                  exact hidx t' i' e
                · have hl := (List.getElem?_eq_some_iff.mp e).1
                  rw [List.length_append, List.length_singleton] at hl
                  obtain rfl : t' = idx.length := by omega
                  rw [List.getElem?_concat_length] at e
                  cases e
                  exact ⟨hij, m, hi, by rw [hil]; exact hp⟩
              · rintro H9 ⟨idx, hil, hidx, eD, f9⟩
                rw [List.length_map] at hil
                walk_at "rs rd"
                refine ⟨D, _, rfl, .inl ⟨SqL.of eD, fun t1 ht1 => ?_⟩⟩
                walk_at "rs rd"
                rename_i t ht
                have g10 : Fm [] H9 (upd (upd H9 t1 (.tup (idx.map fun i : Nat => V.int i))) t (.tup [.str "op", .str o, .ref t1])) := (Fm.new ht1).thenNew ht
                have g8 := f9.trans g10
                have es10 := g8 _ _ es8 List.not_mem_nil
                have e1t : upd (upd H9 t1 (.tup (idx.map fun i : Nat => V.int i))) t (.tup [.str "op", .str o, .ref t1]) t1 = some (.tup (idx.map fun i : Nat => V.int i)) := by walk_at "rs hp"
                have ett : upd (upd H9 t1 (.tup (idx.map fun i : Nat => V.int i))) t (.tup [.str "op", .str o, .ref t1]) t = some (.tup [.str "op", .str o, .ref t1]) := upd_same
                generalize upd (upd H9 t1 (.tup (idx.map fun i : Nat => V.int i))) t (.tup [.str "op", .str o, .ref t1]) = H10 at g8 es10 e1t ett ⊢
                refine w_append es10 (by rw [sizeLine_eq]; omega) ?_
                have put : ∀ a xs, H10 a = some (.tup xs) → upd H10 stl (.lst (refs ++ [.ref t])) a = some (.tup xs) := fun a xs e => by
                  rw [upd_ne (fun z => by rw [z, es10] at e; cases e)]
                  exact e
                refine ⟨_, refs ++ [.ref t], sts ++ [.tup [.text "op", .text o, .tup (idx.map fun i : Nat => .num (i : Int))]], bkvs, rfl, upd_same, NKs.snoc (NK.mono put _ _ (.tup ett (.cons (.text _) (.cons (.text _) (.cons (.tup e1t (nks_nums idx)) .nil))))) (NKs.mono put _ _ (NKs.mono (fun a xs e => g8 _ _ e List.not_mem_nil) _ _ nk8)), by rw [List.length_append, List.length_singleton, hsl2], hst8 _ (.inr ⟨o, ps, idx, hop, rfl, hil, hidx⟩), ?_, hal8, hav8, (fq8.trans g8.nil).thenPut List.mem_cons_self, (f8.trans g8).thenOwn hst0⟩
                rw [upd_ne ns.symm]
                exact g8 _ _ ea8 List.not_mem_nil
        · rintro σ H5 ⟨o8, refs, sts, rfl, es, nks, hst, f5⟩
          walk_at "rs rd"
          refine ⟨stl, _, rfl, .inl ⟨SqL.of es, fun t ht => ?_⟩⟩
          exact k1 hb t _ sts _ (by have := wantL_few L kvs node (node + 1); omega) (wantL_last hwl) hst (.tup upd_same (NKs.mono (fun a xs e => (Fm.new ht : Fm [] H5 _) _ _ e List.not_mem_nil) _ _ nks)) (f5.thenNew ht)
end
end Rs

set_option Elab.async false
set_option linter.all false
set_option maxRecDepth 100000
set_option maxHeartbeats 4000000
/-! dicts with nested tuple keys: setdefault, len -/
namespace Rs
open PySem L2 PySem.Spec PyProof.Rows
section
variable {X : Cx} {pins : List (Addr × Obj)} {σ : L2.St} {H : Hp} {s : Shared} {a b : Addr} {k : NestedKey} {kvs : List (NestedKey × V)} {v : V} {r : Value} {A : Around} {E : Value → Shared → Prop}
theorem nd_setd {Q : Value → Shared → Prop} (hu : A.units + 64 < cLine) (I : Inv X pins σ H s) (d : ND X.prog X.w H a kvs) (hk : NK H k (.ref b)) (hd : k.depth ≤ 8) (hl : kvs.length < sizeLine) (rv : RelV v r)
    (h1 : ∀ u w' s', valV kvs k = some u → Inv X pins σ H s' → RelV u w' → Q w' s')
    (h2 : valV kvs k = none → ∀ H' s', ND X.prog X.w H' a (putK kvs k v) → (∀ c, c ≠ a → H' c = H c) → Inv X pins σ H' s' → Q r s') : wpAny (model X.prog X.w) A (call (.builtin "dict.setdefault") [.ref a, .ref b, r]) Q E s := by
  obtain ⟨z, hs, es, xs, he, hn, rfl, rel, dd⟩ := d.at I.hok
  rw [List.length_map] at hl z
  have hz : xs.length ≤ sizeLine := by rw [← Paired.length rel]; exact z
  have hl' : (ndPut es k b v).length ≤ sizeLine := by have := ndPut_len es k b v; omega
  have same := nd_val rel k
  refine call_setdefault_heap (hsz := hz) (nd_room hu) ⟨NK.isAt I.hok _ _ _ hk rfl, hd⟩ hs dd (fun p hp => ?_) (fun hno h' dd' sb => ?_)
  · rw [hp] at same
    cases q : valV (es.map fun e => (e.1, e.2.2)) k with
    | none => rw [q] at same; exact False.elim same
    | some u => rw [q] at same; exact h1 u p.2 _ q (I.tok _) same
  · have e0 : valV (es.map fun e => (e.1, e.2.2)) k = none := by
      rw [hno] at same
      cases q : valV (es.map fun e => (e.1, e.2.2)) k with
      | none => rfl
      | some u => rw [q] at same; exact False.elim same
    obtain ⟨q, qes, ep, hq, p2, p3, p4, _, p5⟩ := dd'
    have ht : ∀ c ys, H c = some (.tup ys) → upd H a (NdO X.prog X.w a (ndPut es k b v)) c = some (.tup ys) := fun c ys ec => by
      rw [upd_ne (ne_of ec he fun z => ndo_tup z.symm)]
      exact ec
    refine h2 e0 (upd H a (NdO X.prog X.w a (ndPut es k b v))) _ ⟨_, upd_same, fun e hm => ?_, (ndPut_map es k b v).symm⟩ (fun c hc => upd_ne hc) (d_write I (by rw [he]; exact True.intro) sb ⟨q, hq⟩ (nd_ok hl' hs (ndPut_pair rel k b rv) ⟨q, qes, ep, hq, p2, p3, p4, p5⟩))
    obtain ⟨a1, a2⟩ := ndPut_keys hn v hk hd e hm
    exact ⟨NK.mono ht _ _ a1, a2⟩
theorem call_lenN : CallR X (.builtin "len") (fun xs H Q => ∃ a kvs, xs = [V.ref a] ∧ ND X.prog X.w H a kvs ∧ Q (.int kvs.length) H) := by
  intro pins s σ H xs us Q I r h
  obtain ⟨a, kvs, rfl, d, q⟩ := h
  obtain ⟨u, rfl, ru⟩ := vals1 r
  cases ru
  obtain ⟨z, hs, es, ys, he, hn, rfl, rel, dd⟩ := d.at I.hok
  have el : ys.length = es.length := (Paired.length rel).symm
  rw [List.length_map] at z q
  refine call_len_dictH hs dd (by rw [el]; rw [sizeLine_eq] at z; omega) ?_
  rw [el]
  exact ⟨.int es.length, H, I.tok _, ⟨_, rfl⟩, q⟩
end
def tNSetd (P : Program) (w : World) (td ty tx : TE) : TE := fun σ H Q => td σ H fun x H1 => ∃ a kvs, x = .ref a ∧ ND P w H1 a kvs ∧ ty σ H1 fun y H2 => tx σ H2 fun z H3 => ∃ b kvs k, y = .ref b ∧ ND P w H3 a kvs ∧ NK H3 k (.ref b) ∧ k.depth ≤ 8 ∧ kvs.length < sizeLine ∧
  (∀ v, valV kvs k = some v → Q v H3) ∧ (valV kvs k = none → ∀ H4, ND P w H4 a (putK kvs k z) → (∀ c, c ≠ a → H4 c = H3 c) → Q z H4)
theorem pe_nsetd {X : Cx} {o e f : Expr} {td ty tx : TE} {apos cpos : Pos} (hu : X.A.units + 64 < cLine) (ho : PE X o td) (he : PE X e ty) (hf : PE X f tx) (m : M2 X o "setdefault" apos e f cpos) : PE X (.Call (.Attribute o "setdefault" apos) [e, f] [] cpos) (tNSetd X.prog X.w td ty tx) := by
  refine ⟨fun pins s σ H Q I h => ?_⟩
  refine wpAny_Call_method m.base m.few m.line PySem.F.plainAttrs_dict PySem.F.slot_dict_setdefault PySem.F.type_dict_setdefault (thn (ho.run pins s σ H _ I h) fun u s1 ⟨x, H1, I1, rx, a, kvs, ex, d, q1⟩ => ?_)
  subst ex
  obtain rfl : u = Value.ref a := rx
  have tt : s1.TypeIs (.ref a) "dict" ∧ (∀ b, Value.ref a = .ref b → ∃ ob, s1.heap.get? b = some ob ∧ ob.dict = none) := by
    obtain ⟨_, _, es, xs, he, hn, _, rel, dd⟩ := d.at I1.hok
    refine ⟨dd.typeIs, fun b eb => ?_⟩
    obtain ⟨o, des, ep, q1, q2, _⟩ := dd
    cases eb
    exact ⟨o, q1, q2.2.1⟩
  refine ⟨tt.1, tt.2, ?_⟩
  rw [m.trees]
  refine Calls.callWith_builtin rfl (Calls.evalArgs_plain (Calls.spliced_cons (thn (he.run pins s1 σ H1 _ I1 q1) fun iv s2 ⟨y, H2, I2, ry, q2⟩ =>
    Calls.spliced_cons (thn (hf.run pins s2 σ H2 _ I2 q2) fun fv s3 ⟨z, H3, I3, rz, b, kvs, k, ey, d3, nk, hd, hl, q3, q4⟩ => Calls.spliced_nil ?_))))
  subst ey
  cases ry
  exact nd_setd hu I3 d3 nk hd hl rz (fun v w' s4 hv I4 rw' => ⟨v, _, I4, rw', q3 v hv⟩) fun hn H' s4 d4 hc I4 => ⟨z, H', I4, rz, q4 hn H' d4 hc⟩
end Rs

set_option Elab.async false
set_option linter.all false
set_option maxRecDepth 100000
set_option maxHeartbeats 4000000
/-! dict(list of pairs) with nested tuple keys -/
namespace Rs
open PySem L2 PySem.Spec PyProof.Rows
abbrev RelE : NestedKey × Addr × V → NestedKey × Addr × Value → Prop := fun p q => p.1 = q.1 ∧ p.2.1 = q.2.1 ∧ RelV p.2.2 q.2.2
section
variable {X : Cx} {pins : List (Addr × Obj)} {σ : L2.St} {H : Hp} {s : Shared}
theorem pairsN (I : Inv X pins σ H s) : ∀ {ps : List Addr} {es : List (NestedKey × Addr × V)}, Paired (fun p e => SqT X.K H p [.ref e.2.1, e.2.2]) ps es →
    ∃ prs : List (NestedKey × Addr × Value), Paired RelE es prs ∧ prs.length = ps.length ∧ ∀ (j : Nat) (q : NestedKey × Addr × Value), prs[j]? = some q → ∃ b : Addr, ps[j]? = some b ∧ IsTup s.heap b #[.ref q.2.1, q.2.2]
  | _, _, .nil => ⟨[], .nil, rfl, fun j q e => by simp at e⟩
  | _, _, .cons (a := p) (b := e) h t => by
    obtain ⟨prs, r, hl, hp⟩ := pairsN I t
    obtain ⟨its, rv, ht, _⟩ := I.tuple h
    cases rv with
    | cons ru rv2 =>
      cases rv2 with
      | cons ry rv3 =>
        cases rv3
        cases ru
        refine ⟨(e.1, e.2.1, _) :: prs, .cons ⟨rfl, rfl, ry⟩ r, by rw [List.length_cons, List.length_cons, hl], fun j q eq => ?_⟩
        cases j with
        | zero =>
          cases Option.some.inj eq
          exact ⟨p, rfl, ht⟩
        | succ j => exact hp j q eq
theorem call_dictN (hcalm : X.calm = true) (hu : X.A.units + 64 < cLine) : CallR X (.type "dict") (fun xs H Q => ∃ (a : Addr) (ps : List Addr) (es : List (NestedKey × Addr × V)), xs = [.ref a] ∧ SqL X.K H a (ps.map V.ref) ∧ Paired (fun p e => SqT X.K H p [.ref e.2.1, e.2.2]) ps es ∧
    (∀ e ∈ es, NK H e.1 (.ref e.2.1) ∧ e.1.depth ≤ 8) ∧ (es.map (·.1)).Nodup ∧ ∀ p H', H p = none → ND X.prog X.w H' p (es.map fun e => (e.1, e.2.2)) → (∀ c, c ≠ p → H' c = H c) → Q (.ref p) H') := by
  intro pins s σ H xs us Q I r q
  obtain ⟨a, ps, es, ex, hq, hp, hk, hn, q⟩ := q
  subst ex
  obtain ⟨u, eu, rx⟩ := vals1 r
  subst eu
  cases rx
  obtain ⟨its, rv, pl, hz⟩ := I.list hq
  have ei := refs_at rv
  subst ei
  rw [List.length_map] at hz
  obtain ⟨prs, rel, hl, hpr⟩ := pairsN I hp
  have pl' := pl
  obtain ⟨o, n, ho, hc, hd, hdat⟩ := pl'
  have hnp : (prs.map (·.1)).Nodup := by
    have e : ∀ {es : List (NestedKey × Addr × V)} {prs : List (NestedKey × Addr × Value)}, Paired RelE es prs → es.map (·.1) = prs.map (·.1) := fun r => by
      induction r with
      | nil => rfl
      | cons h _ ih => rw [List.map_cons, List.map_cons, h.1, ih]
    rw [← e rel]
    exact hn
  have isk : ∀ x ∈ prs, (nestedKind X.prog X.w).is s.heap x.1 x.2.1 := by
    have e : ∀ {es : List (NestedKey × Addr × V)} {prs : List (NestedKey × Addr × Value)}, Paired RelE es prs → (∀ e ∈ es, NK H e.1 (.ref e.2.1) ∧ e.1.depth ≤ 8) → ∀ x ∈ prs, (nestedKind X.prog X.w).is s.heap x.1 x.2.1 := fun r => by
      induction r with
      | nil => exact fun _ x hx => (nomatch hx)
      | @cons p q _ _ h _ ih =>
        intro hk x hx
        rcases List.mem_cons.mp hx with rfl | hx
        · obtain ⟨h1, h2, _⟩ := h
          obtain ⟨k1, k2⟩ := hk p List.mem_cons_self
          rw [h1, h2] at k1
          rw [h1] at k2
          exact ⟨NK.isAt I.hok _ _ _ k1 rfl, k2⟩
        · exact ih (fun e he => hk e (List.mem_cons_of_mem _ he)) x hx
    exact e rel hk
  have hi : PairItems s.heap (ps.map Value.ref).toArray (fun j => ps.getD j 0) (prs.map fun q => (Value.ref q.2.1, q.2.2)) := by
    refine ⟨by simp [hl], fun j k v e => ?_⟩
    rw [List.getElem?_map] at e
    obtain ⟨q', hq', e2⟩ := Option.map_eq_some_iff.mp e
    cases e2
    obtain ⟨b, hb, hT⟩ := hpr j q' hq'
    have e3 : ps.getD j 0 = b := by rw [List.getD_eq_getElem?_getD, hb]; rfl
    exact ⟨by simp [hb, e3], by show PairAt s.heap (ps.getD j 0) _ _; rw [e3]; exact .inl hT⟩
  refine call_dict_pairsH (knd := nestedKind X.prog X.w) (ps := prs) (PairArg.list a (ps.map Value.ref).toArray (fun j => ps.getD j 0) (prs.map fun q => (Value.ref q.2.1, q.2.2))) (I.ok.hd hcalm) (by
    show X.A.units + 1 + 1 + 8 < cLine
    omega) ⟨⟨o, n, ho, hc, hd, hdat⟩, hi⟩ ⟨by simp, fun i key v e => ?_⟩ (fun h' hk' x hx => nestedKind_stays.all h' (fun b o _ e => hk' b o (Nat.ne_of_lt (Heap.lt_size e)) (fun z => nomatch z) e) _ _ (isk x hx)) (by rw [List.length_map, hl]; exact hz) fun h' tk hd' k => ?_
  · have e' : (prs.map fun q => (Value.ref q.2.1, q.2.2))[i]? = some (key, v) := e
    rw [List.getElem?_map] at e'
    obtain ⟨q', hq', e2⟩ := Option.map_eq_some_iff.mp e'
    cases e2
    exact ⟨q'.1, q'.2.1, hq', rfl⟩
  · rw [storedAllH_nil_of_nodup _ hnp] at hd'
    obtain ⟨o', qes, ep, g1, g2, g3, g4, _, g5⟩ := hd'
    have hf : H s.heap.objs.size = none := I.hok.fresh (Nat.le_refl _)
    have hm : (s.heap.objs.size == sysModules) = false := beq_eq_false_iff_ne.mpr (Nat.ne_of_gt I.big)
    have el : es.length ≤ sizeLine := by rw [Paired.length rel, hl]; exact hz
    have up : ∀ c ys, H c = some (.tup ys) → upd H s.heap.objs.size (NdO X.prog X.w s.heap.objs.size es) c = some (.tup ys) := fun c ys ec => by
      rw [upd_ne (ne_of_none ec hf)]
      exact ec
    refine ⟨.ref s.heap.objs.size, upd H s.heap.objs.size (NdO X.prog X.w s.heap.objs.size es), I.laid (t' := tk) (fun b o e => k b o (fun z => nomatch z) e) (Nat.le_refl _) (nd_ok el hm rel ⟨o', qes, ep, g1, g2, g3, g4, g5⟩), rfl, q _ _ hf ⟨es, upd_same, fun e he => ⟨NK.mono up _ _ (hk e he).1, (hk e he).2⟩, rfl⟩ fun c hc => upd_ne hc⟩
end
end Rs

set_option Elab.async false
set_option linter.all false
set_option maxRecDepth 100000
set_option maxHeartbeats 4000000
/-! keys as data: equal just if they are one -/
namespace Rs
open PySem L2 PySem.Spec PyProof.Rows
mutual
theorem eqv_toPy : ∀ a b : NestedKey, PyData.eqv (toPy a) (toPy b) = decide (a = b)
  | .none, b => by cases b <;> simp [toPy, PyData.eqv]
  | .num i, b => by
    cases b with
    | num j => simp [toPy, PyData.eqv]; rw [Bool.eq_iff_iff]; simp
    | _ => simp [toPy, PyData.eqv]
  | .text x, b => by
    cases b with
    | text y => simp [toPy, PyData.eqv]; rw [Bool.eq_iff_iff]; simp
    | _ => simp [toPy, PyData.eqv]
  | .tup ks, b => by
    cases b with
    | tup js =>
      show PyData.eqvAll (toPys ks) (toPys js) = _
      rw [eqv_toPys ks js]
      simp
    | _ => simp [toPy, PyData.eqv]
theorem eqv_toPys : ∀ as bs : List NestedKey, PyData.eqvAll (toPys as) (toPys bs) = decide (as = bs)
  | [], [] => rfl
  | [], b :: bs => by simp [toPys, PyData.eqvAll]
  | a :: as, [] => by simp [toPys, PyData.eqvAll]
  | a :: as, b :: bs => by
    show (PyData.eqv (toPy a) (toPy b) && PyData.eqvAll (toPys as) (toPys bs)) = _
    rw [eqv_toPy a b, eqv_toPys as bs, Bool.eq_iff_iff]
    simp
end
theorem any_toPy (k : NestedKey) : ∀ L : List NestedKey, ((toPys L).any fun z => PyData.eqv z (toPy k)) = decide (k ∈ L)
  | [] => rfl
  | a :: r => by
    show (PyData.eqv (toPy a) (toPy k) || (toPys r).any fun z => PyData.eqv z (toPy k)) = _
    rw [eqv_toPy, any_toPy k r, Bool.eq_iff_iff, Bool.or_eq_true, decide_eq_true_iff, decide_eq_true_iff, decide_eq_true_iff, List.mem_cons]
    exact ⟨fun h => h.imp Eq.symm id, fun h => h.imp Eq.symm id⟩
end Rs

set_option Elab.async false
set_option linter.all false
set_option maxRecDepth 100000
set_option maxHeartbeats 4000000
/-! _law_rows -/
namespace Rs
open PySem L2 PySem.Spec PyProof.Rows
local macro_rules | `(tactic| walk_at "rs ne") => `(tactic| first | assumption | (apply Ne.symm; assumption) | (apply ne_n1; assumption; walk_at "rs hp") | (apply ne_n2; assumption; walk_at "rs hp"))
local macro_rules | `(tactic| walk_at "rs hp") => `(tactic| first | assumption | exact upd_same | (apply hp_ne; (walk_at "rs ne"); (walk_at "rs hp")))
local macro_rules | `(tactic| walk_at "rs sq") => `(tactic| first | assumption | (apply SqL.of; walk_at "rs hp") | (apply SqT.of; walk_at "rs hp"))
local macro_rules | `(tactic| walk_at "rs sz") => `(tactic| first | decide | (rw [sizeLine_eq]; simp; done) | (rw [sizeLine_eq]; simp; omega) | (rw [sizeLine_eq]; omega))
local macro_rules | `(tactic| walk_at "rs ar") => `(tactic| first | assumption | (show (0 : Int) < _; first | assumption | decide | omega) | exact Or.inr ⟨by decide, by decide⟩ | exact Or.inl ⟨by decide, by decide⟩ | exact Or.inl ⟨by omega, by omega⟩ | exact Or.inr ⟨by omega, by omega⟩ | exact ⟨by decide, by decide, by decide⟩ | exact ⟨by decide, by decide⟩ | exact ⟨by omega, by omega⟩)
local macro_rules | `(tactic| walk_at "rs r1") => `(tactic| with_reducible (first | refine w_var rfl ?_ | refine w_c ?_ | refine w_op ?_ | refine w_un ?_ | refine w_test ?_ | refine w_B ?_ | refine w_bool ?_ | refine w_not ?_ | refine w_cb ?_ | refine w_nil ?_ | refine w_cons ?_ | refine w_asg ?_ | refine w_name ?_ | refine w_seq ?_ | refine w_ret ?_ | refine w_drop ?_ | refine w_next ?_ | refine w_ifS ?_ | refine w_I0 ?_ | refine w_eqI ?_ | refine w_neI ?_ | refine w_int ?_ | refine w_abs ?_ | refine w_sl ?_ | refine w_part ?_ | refine w_intO ?_ | refine w_nopart ?_ | refine w_gsub ?_ | refine w_augS ?_ | refine w_ip ?_ | refine w_lst ?_ | refine w_tup ?_ | refine w_if ?_ | refine w_and ?_ | refine w_or ?_ | refine w_tfld ?_ | refine w_forL ?_ | refine w_forT ?_ | refine w_forR1 ?_ | refine w_forR2 ?_ | refine w_forE ?_ | refine w_lcL ?_ | refine w_lcR1 ?_ | refine w_bm ?_ | refine w_call ?_ | refine w_meth ?_ | refine w_nget ?_ | refine w_nin ?_ | refine w_nput ?_ | refine w_eqS ?_ | refine w_neS ?_))
local macro_rules | `(tactic| walk_at "rs r2") => `(tactic| first | (walk_at "rs r1") | ((with_reducible refine' w_ixL ?h1 ?h2 ?h3); (case h1 => walk_at "rs sq"); (case h2 => first | rfl | exact atI_nat (j := 0) rfl | exact atI_nat (j := 1) rfl | exact atI_nat (j := 2) rfl)) | ((with_reducible refine' w_ixT ?h1 ?h2 ?h3); (case h1 => walk_at "rs sq"); (case h2 => first | rfl | exact atI_nat (j := 0) rfl | exact atI_nat (j := 1) rfl | exact atI_nat (j := 2) rfl)) | ((with_reducible refine' w_cutL ?h1 ?_); (case h1 => walk_at "rs sq"); intro q hq) | ((with_reducible refine' w_cat ?h1 ?h2 ?h3 ?_); (case h1 => walk_at "rs hp"); (case h2 => walk_at "rs hp"); (case h3 => walk_at "rs sz"); intro q hq) | ((with_reducible refine' w_small ?h1 ?_); (case h1 => exact Nat.le_of_ble_eq_true rfl); intro q hq) | ((with_reducible refine' w_setL ?h1 ?h2 ?_); (case h1 => walk_at "rs hp"); (case h2 => rfl)) | ((with_reducible refine' w_getL ?h0 ?h1 ?h2 ?_); (case h0 => rfl); (case h1 => walk_at "rs sq"); (case h2 => rfl)) | ((with_reducible refine' w_lenL ?h1 ?_); (case h1 => walk_at "rs sq")) | ((with_reducible refine' w_lenT ?h1 ?_); (case h1 => walk_at "rs sq")) | ((with_reducible refine' w_fld ?h1 ?h2 ?h3 ?h4 ?_); (case h1 => assumption); (case h2 => assumption); (case h3 => walk_at "rs hp"); (case h4 => assumption)) | ((with_reducible refine' w_methAt ?h1 ?h2 ?_); (case h1 => walk_at "rs hp"); (case h2 => assumption)) | ((with_reducible refine' w_tyL ?h1 ?_); (case h1 => walk_at "rs sq")) | ((with_reducible refine' w_append ?h1 ?h2 ?_); (case h1 => walk_at "rs hp"); (case h2 => assumption)) | ((with_reducible refine' w_I ?h1 ?_); (case h1 => walk_at "rs ar")))
local macro_rules | `(tactic| walk_at "rs rd") => `(tactic| repeat (walk_at "rs r2"))
abbrev sRows : Stmt := top 18
structure Txt4 (mg : Str → Option Value) : Prop where
  range : mg "range" = none
  tuple : mg "tuple" = none
theorem hu65 {A : Around} {k : Nat} (hr : Room k A) : A.units + 65 < cLine := by
  have := hr.un
  omega
theorem c_lenK {X : Cx} {K : PySem.W.Frag} (h : X.K = K) : CallR X (.builtin "len") (rLenX K) := by
  subst h
  exact c_len
def opsW : List Str := ["f", "g", "7", "add", "h"]
theorem eqv_nil : ∀ L : List NestedKey, PyData.eqv (.list (toPys L)) (.list []) = decide (L = [])
  | [] => rfl
  | k :: r => (show PyData.eqv (.list (toPys (k :: r))) (.list []) = false from rfl).trans (decide_eq_false (fun z => nomatch z)).symm
theorem nums_of {H : Hp} : ∀ ns : List Int, NKs H (ns.map NestedKey.num) (ns.map V.int)
  | [] => .nil
  | n :: r => .cons (.num n) (nums_of r)
def menuK : List NestedKey := [.tup [.text "f", .num 1], .tup [.text "g", .num 2], .tup [.text "f", .num 1], .tup [.text "7", .num 0], .tup [.text "add", .num 2], .tup [.text "h", .num 3], .tup [.text "f", .num 2]]
theorem NKs.mem {H : Hp} {v : V} : ∀ {ks : List NestedKey} {vs : List V}, NKs H ks vs → v ∈ vs → ∃ k ∈ ks, NK H k v
  | [], _, h, hv => by cases h; cases hv
  | k :: ks, _, h, hv => by
    cases h with
    | cons a r =>
      rcases List.mem_cons.mp hv with rfl | hv
      · exact ⟨k, List.mem_cons_self, a⟩
      · obtain ⟨k', hk, n⟩ := NKs.mem r hv
        exact ⟨k', List.mem_cons_of_mem _ hk, n⟩
/-- a row of this law at the place i -/
def WRow (i : Nat) (k : NestedKey) : Prop := (∃ t : Nat, t ≤ 30 ∧ k = .tup [.text "letter", .tup [.text "read", .num (t : Int)]]) ∨ ∃ (o : Str) (ns : List Int), o ∈ opsW ∧ ns.length ≤ 3 ∧ (∀ n ∈ ns, 0 ≤ n ∧ n < (i : Int)) ∧ k = .tup [.text "op", .text o, .tup (ns.map .num)]
def spRows : Sp := fun vs H Q _ => ∃ (b c : Addr) (many : Nat), vs = [.ref b, .int (many : Int)] ∧ 1 ≤ many ∧ many ≤ 30 ∧ Bag H b c ∧
  ∀ (q : Addr) (L : List NestedKey) (rs : List V) (H' : Hp), H q = none → H' q = some (.lst rs) → NKs H' L rs → (∀ i k, L[i]? = some k → WRow i k) → L.Nodup → 1 ≤ L.length → L.length ≤ many → Bag H' b c → Fm [b] H H' → Q (.ref q) H'
theorem Bag.tp {H H' : Hp} {b c : Addr} (B : Bag H b c) (f : Fm [b] H H') : ∀ a xs, H a = some (.tup xs) → H' a = some (.tup xs) := fun a xs e => f a _ e (not_in1 (fun z => by
  obtain ⟨_, _, _, _, h1, _⟩ := B
  rw [z, h1] at e
  cases e))
/-- what stands behind each turn -/
structure RSt (b c q : Addr) (H H' : Hp) (L : List NestedKey) (rs : List V) : Prop where
  here : H' q = some (.lst rs)
  nks : NKs H' L rs
  row : ∀ i k, L[i]? = some k → WRow i k
  nd : L.Nodup
  bag : Bag H' b c
  fr : Fm [b] H H'
theorem WRow.ok {i : Nat} {k : NestedKey} (h : WRow i k) (hi : i ≤ 100) : okD (toPy k) = true ∧ (toPy k).depth ≤ 20 := by
  obtain ⟨t, ht, rfl⟩ | ⟨o, ns, ho, hn, hb, rfl⟩ := h
  · refine ⟨?_, Nat.le_of_ble_eq_true rfl⟩
    show (okD (.str "letter") && ((okD (.str "read") && (decide (((t : Nat) : Int).natAbs < 10 ^ 12) && true)) && true)) = true
    rw [decide_eq_true (by omega)]
    decide +kernel
  · have hC : okD (.str o) = true := by
      have h : (opsW.all fun o => okD (.str o)) = true := by decide +kernel
      exact List.all_eq_true.mp h o ho
    have hA : ∀ ns : List Int, (∀ n ∈ ns, 0 ≤ n ∧ n < (i : Int)) → okDs (toPys (ns.map .num)) = true := fun ns => by
      induction ns with
      | nil => exact fun _ => rfl
      | cons n r ih =>
        intro h
        have h1 := h n List.mem_cons_self
        show (decide (n.natAbs < 10 ^ 12) && okDs (toPys (r.map .num))) = true
        rw [ih fun q hq => h q (List.mem_cons_of_mem _ hq), decide_eq_true (by omega)]
        rfl
    refine ⟨?_, ?_⟩
    · show (okD (.str "op") && (okD (.str o) && (okDs (toPys (ns.map .num)) && true))) = true
      rw [hA ns hb, hC]
      decide +kernel
    · match ns, hn with
      | [], _ => exact Nat.le_of_ble_eq_true rfl
      | [a], _ => exact Nat.le_of_ble_eq_true rfl
      | [a, b], _ => exact Nat.le_of_ble_eq_true rfl
      | [a, b, c], _ => exact Nat.le_of_ble_eq_true rfl
theorem wrows_ok : ∀ {L : List NestedKey}, (∀ k ∈ L, ∃ i ≤ 100, WRow i k) → SeqAt.shaped (.list (toPys L)) = true := fun {L} h => by
  have h1 : ∀ {L : List NestedKey}, (∀ k ∈ L, ∃ i ≤ 100, WRow i k) → okDs (toPys L) = true ∧ PyData.depthAll (toPys L) ≤ 20 := fun {L} => by
    induction L with
    | nil => exact fun _ => ⟨rfl, Nat.zero_le _⟩
    | cons k r ih =>
      intro h
      obtain ⟨i, hi, hk⟩ := h k List.mem_cons_self
      obtain ⟨a1, a2⟩ := hk.ok hi
      obtain ⟨b1, b2⟩ := ih fun q hq => h q (List.mem_cons_of_mem _ hq)
      refine ⟨?_, ?_⟩
      · show (okD (toPy k) && okDs (toPys r)) = true
        rw [a1, b1]
        rfl
      · show max (PyData.depth (toPy k)) (PyData.depthAll (toPys r)) ≤ 20
        omega
  obtain ⟨a, b⟩ := h1 h
  unfold SeqAt.shaped
  have hd : (PyData.list (toPys L)).depth ≤ 64 := by
    show PyData.depthAll (toPys L) + 1 ≤ 64
    omega
  rw [okD_lay (.list (toPys L)) a, decide_eq_true hd]
  rfl
section
variable {P : Program} {w : World} {K : PySem.W.Frag} {mg : Str → Option Value} {base : Heap}
theorem scRows : FnScope ["bag", "many", "found", "turn", "row", "o", "parts", "part"] ["bag", "many"] (defScope sRows) := ⟨rfl, rfl, rfl, by decide +kernel, rfl, by decide +kernel, by decide +kernel⟩
theorem ok_rows {f fTa fSo : Addr} {fd fdTa fdSo : FuncData} (F : Fun K "_law_rows" "_law_rows" sRows f fd) (T1 : TxtB K mg) (T2 : Txt4 mg)
    (GTa : FnOk P w K mg base CX0 1 fTa fdTa ["bag", "many"] spTake) (mTa : mg "_law_take" = some (.ref fTa)) (kTa : PySem.W.keepIn K (.ref fTa) = true) (bTa : Binds K fdTa ["bag", "many"] [])
    (GSo : FnOk P w K mg base CX0 2 fSo fdSo ["bag", "things"] (spSome K)) (mSo : mg "_law_some" = some (.ref fSo)) (kSo : PySem.W.keepIn K (.ref fSo) = true) (bSo : Binds K fdSo ["bag", "things"] []) :
    FnOk P w K mg base CX0 3 f fd ["bag", "many"] spRows := by
  refine F.ok scRows (fun vs H Q E h => ?_) (fun cdv A outer s H vs Q E hr h => ?_)
  · obtain ⟨b, c, many, rfl, _⟩ := h
    rfl
  · obtain ⟨b, c, many, rfl, h1, h30, B, k⟩ := h
    have nd := scRows.nd
    refine ⟨_, (pss_cons (ps_set (i := 2) nd rfl (Or.inr rfl) (pe_lst pa_nil)) (Evl.pss_cut (ps_for PassesOwn.never rfl (pi_range1 rfl T2.range (pa_cons (pv 1) pa_nil)) (pg_name (i := 3) nd rfl (Or.inl rfl)) (Evl.pss_cut (ps_set (i := 4) nd rfl (Or.inl rfl) (pe_tup (pa_cons pe_str (pa_cons (pe_tup (pa_cons pe_str (pa_cons (pv 3) pa_nil))) pa_nil)))) (Evl.pss_cut (ps_if (PW.pt (pw_and (pt_cmpR (op_neD hr.units) (pv 2) (pe_lst pa_nil) (nomark _)) (pw_and1 (pt_cmpR op_gt (pe_call (E := E0) GTa (hr.mono (by decide)) rfl mTa kTa bTa .nil pass0 (pa_cons (pv 0) (pa_cons pe_int pa_nil))) pe_int (nomark _))))) (pss_cons (ps_asg (pe_call (E := E0) GSo (hr.mono (by decide)) rfl mSo kSo bSo .nil pass0 (pa_cons (pv 0) (pa_cons (pe_lst (pa_cons (pe_tup (pa_cons pe_str (pa_cons pe_int pa_nil))) (pa_cons (pe_tup (pa_cons pe_str (pa_cons pe_int pa_nil))) (pa_cons (pe_tup (pa_cons pe_str (pa_cons pe_int pa_nil))) (pa_cons (pe_tup (pa_cons pe_str (pa_cons pe_int pa_nil))) (pa_cons (pe_tup (pa_cons pe_str (pa_cons pe_int pa_nil))) (pa_cons (pe_tup (pa_cons pe_str (pa_cons pe_int pa_nil))) (pa_cons (pe_tup (pa_cons pe_str (pa_cons pe_int pa_nil))) pa_nil)))))))) pa_nil))) (pg_tup rfl (pgs_cons (pg_name (i := 5) nd rfl (Or.inl rfl)) (pgs_cons (pg_name (i := 6) nd rfl (Or.inl rfl)) pgs_nil)))) (pss_one (ps_set (i := 4) nd rfl (Or.inl rfl) (pe_tup (pa_cons pe_str (pa_cons (pv 5) (pa_cons (pe_callTy call_tuple_of (by rfl) T2.tuple (by decide +kernel) (pa_cons (pe_lc (own := [("part", 7)]) (g := gName 7) (tt := tYes) rfl nd (pi_range1 rfl T2.range (pa_cons (pv 6) pa_nil)) (blkOk_by (N := ["bag", "many", "found", "turn", "row", "o", "parts", "part"]) (sc := defScope sRows) (by decide +kernel)) (fun _ _ _ _ _ => pg_name (i := 7) nd rfl (Or.inl rfl)) (fun _ _ _ _ _ => pts_nil) (fun _ _ _ _ _ => (pe_call (E := E0) GSo (hr.mono (by decide)) rfl mSo kSo bSo .nil pass0 (pa_cons (pv 0) (pa_cons (pe_lst (pa_cons (pe_call (E := E0) GTa (hr.mono (by decide)) rfl mTa kTa bTa .nil pass0 (pa_cons (pv 0) (pa_cons (pe_callB (c_lenK (K := K) rfl) (by rfl) T1.len PySem.boot_len (pa_cons (pv 2) pa_nil)) pa_nil))) (pa_cons (pe_op op_sub (pe_callB (c_lenK (K := K) rfl) (by rfl) T1.len PySem.boot_len (pa_cons (pv 2) pa_nil)) pe_int) pa_nil))) pa_nil))))) pa_nil)) pa_nil))))))) pss_nil) (pss_one (ps_if (pt_cmpR (op_notInD (hu65 hr)) (pv 4) (pv 2) rfl) (pss_one (ps_expr (pe_bm PySem.F.plainAttrs_list PySem.F.slot_list_append PySem.F.type_list_append mt_append (pv 2) (pa_cons (pv 4) pa_nil)))) pss_nil))))) (pss_one (ps_ret (pv 2))))), ?_⟩
    walk_at "rs rd"
    rename_i q hq
    have hqb : q ≠ b := fun z => by
      obtain ⟨_, _, _, _, h, _⟩ := B
      rw [z, h] at hq
      cases hq
    have hqc : c ≠ q := fun z => by
      obtain ⟨_, _, _, _, _, _, _, h, _⟩ := B
      rw [← z, h] at hq
      cases hq
    refine w_cut (M := fun σ H' => ∃ o3 o4 o5 o6 L rs, σ = [some (.ref b), some (.int (many : Int)), some (.ref q), o3, o4, o5, o6, none] ∧ RSt b c q H H' L rs ∧ L.length ≤ many ∧ 1 ≤ L.length) ?_ ?_
    · walk_at "rs rd"
      refine ⟨(many : Int), rfl, by omega, by omega, for_it (walk_range (lo := 0) (n := (many : Int).toNat)) (fun i σ H' => ∃ o3 o4 o5 o6 L rs, σ = [some (.ref b), some (.int (many : Int)), some (.ref q), o3, o4, o5, o6, none] ∧ RSt b c q H H' L rs ∧ L.length ≤ i ∧ (0 < i → 1 ≤ L.length))
        ⟨_, _, _, _, [], [], rfl, ⟨upd_same, .nil, fun i k e => (by simp at e), .nil, B.frame (Fm.new hq : Fm [] H _) List.not_mem_nil List.not_mem_nil, Fm.new hq⟩, Nat.le_refl _, fun z => absurd z (Nat.lt_irrefl _)⟩ (fun _ _ _ _ _ => trivial) ?_ (fun σ H' ⟨o3, o4, o5, o6, L, rs, e, x, h1', h2⟩ => ⟨o3, o4, o5, o6, L, rs, e, x, by omega, h2 (by omega)⟩)⟩
      rintro i x σ H2 H3 hi ⟨o3, o4, o5, o6, L, rs, rfl, x2, hle, hpos⟩ ⟨rfl, rfl⟩
      rw [Int.toNat_natCast] at hi
      simp only [Int.zero_add]
      refine w_name ?_
      have hll := x2.nks.len
      have x2f : ∀ {H4 : Hp}, Fm [] H3 H4 → RSt b c q H H4 L rs := fun f => ⟨f _ _ x2.here List.not_mem_nil, NKs.mono (fun a xs e => f _ _ e List.not_mem_nil) _ _ x2.nks, x2.row, x2.nd, x2.bag.frame f List.not_mem_nil List.not_mem_nil, x2.fr.trans f.nil⟩
      refine w_cut (M := fun σ H' => ∃ (p : Addr) (k : NestedKey) (o5 o6 : Option V), σ = [some (.ref b), some (.int (many : Int)), some (.ref q), some (.int (i : Int)), some (.ref p), o5, o6, none] ∧ RSt b c q H H' L rs ∧ NK H' k (.ref p) ∧ WRow L.length k) ?_ ?_
      · walk_at "rs rd"
        rename_i t1 ht1 t2 ht2
        exact ⟨t2, .tup [.text "letter", .tup [.text "read", .num (i : Int)]], _, _, rfl, x2f ((Fm.new ht1).thenNew ht2), .tup upd_same (.cons (.text _) (.cons (.tup (by walk_at "rs hp") (.cons (.text _) (.cons (.num _) .nil))) .nil)), .inl ⟨i, by omega, rfl⟩⟩
      · rintro σ H4 ⟨p, k0, o5, o6, rfl, x4, nk4, hk4⟩
        refine w_cut (M := fun σ H' => ∃ (p : Addr) (k : NestedKey) (o5 o6 : Option V), σ = [some (.ref b), some (.int (many : Int)), some (.ref q), some (.int (i : Int)), some (.ref p), o5, o6, none] ∧ RSt b c q H H' L rs ∧ NK H' k (.ref p) ∧ WRow L.length k) ?_ ?_
        · have hrm : ∀ k ∈ L, ∃ i ≤ 100, WRow i k := fun k hk => by
            obtain ⟨j, hj⟩ := List.getElem?_of_mem hk
            exact ⟨j, by have := (List.getElem?_eq_some_iff.mp hj).1; omega, x4.row j k hj⟩
          have sh := wrows_ok hrm
          have h4 := x4.here
          have keep : ∀ {A B : Hp} {p : Addr} {k : NestedKey}, RSt b c q H A L rs → NK A k (.ref p) → Fm [] A B → RSt b c q H B L rs ∧ NK B k (.ref p) := fun x n f =>
            ⟨⟨f _ _ x.here List.not_mem_nil, NKs.mono (fun a xs e => f _ _ e List.not_mem_nil) _ _ x.nks, x.row, x.nd, x.bag.frame f List.not_mem_nil List.not_mem_nil, x.fr.trans f.nil⟩, NK.mono (fun a xs e => f _ _ e List.not_mem_nil) _ _ n⟩
          have turn : ∀ {A B : Hp} {p : Addr} {k : NestedKey}, RSt b c q H A L rs → NK A k (.ref p) → Fm [b] A B → Bag B b c → RSt b c q H B L rs ∧ NK B k (.ref p) := fun x n f B =>
            ⟨⟨f _ _ x.here (not_in1 hqb), NKs.mono (x.bag.tp f) _ _ x.nks, x.row, x.nd, B, x.fr.trans f⟩, NK.mono (x.bag.tp f) _ _ n⟩
          walk_at "rs rd"
          rename_i e0 he0
          obtain ⟨x5, n5⟩ := keep x4 nk4 (Fm.new (o := .lst []) he0)
          refine ⟨.list (toPys L), .list [], .lst (SqL.of x5.here) (NKs.dp _ _ x5.nks), .lst (SqL.of upd_same) .nil, sh, by decide +kernel, ?_⟩
          rw [eqv_nil]
          refine w_bool ?_
          refine w_iteN (fun hne => ?_) (fun hnil => ?_)
          · walk_at "rs rd"
            refine ⟨b, c, 4, rfl, by decide, by decide, x5.bag, fun u H6 u0 u1 B6 f6 => ?_⟩
            obtain ⟨x6, n6⟩ := turn x5 n5 f6 B6
            walk_at "rs rd"
            refine w_ite (fun hu => ?_) (fun hu => ?_)
            · walk_at "rs rd"
              rename_i a1 ha1 a2 ha2 a3 ha3 a4 ha4 a5 ha5 a6 ha6 a7 ha7 a8 ha8
              have f7 := ((((((((Fm.new (o := .tup [.str "f", .int 1]) ha1 : Fm [] H6 _).thenNew (o := .tup [.str "g", .int 2]) ha2).thenNew (o := .tup [.str "f", .int 1]) ha3).thenNew (o := .tup [.str "7", .int 0]) ha4).thenNew (o := .tup [.str "add", .int 2]) ha5).thenNew (o := .tup [.str "h", .int 3]) ha6).thenNew (o := .tup [.str "f", .int 2]) ha7).thenNew (o := .lst [.ref a1, .ref a2, .ref a3, .ref a4, .ref a5, .ref a6, .ref a7]) ha8)
              have hnk : NKs (upd (upd (upd (upd (upd (upd (upd (upd H6 a1 (.tup [.str "f", .int 1])) a2 (.tup [.str "g", .int 2])) a3 (.tup [.str "f", .int 1])) a4 (.tup [.str "7", .int 0])) a5 (.tup [.str "add", .int 2])) a6 (.tup [.str "h", .int 3])) a7 (.tup [.str "f", .int 2])) a8 (.lst [.ref a1, .ref a2, .ref a3, .ref a4, .ref a5, .ref a6, .ref a7])) menuK [.ref a1, .ref a2, .ref a3, .ref a4, .ref a5, .ref a6, .ref a7] := by
                unfold menuK
                exact .cons (.tup (by walk_at "rs hp") (.cons (.text _) (.cons (.num _) .nil))) (.cons (.tup (by walk_at "rs hp") (.cons (.text _) (.cons (.num _) .nil))) (.cons (.tup (by walk_at "rs hp") (.cons (.text _) (.cons (.num _) .nil))) (.cons (.tup (by walk_at "rs hp") (.cons (.text _) (.cons (.num _) .nil))) (.cons (.tup (by walk_at "rs hp") (.cons (.text _) (.cons (.num _) .nil))) (.cons (.tup (by walk_at "rs hp") (.cons (.text _) (.cons (.num _) .nil))) (.cons (.tup (by walk_at "rs hp") (.cons (.text _) (.cons (.num _) .nil))) (.nil)))))))
              have e8 : (upd (upd (upd (upd (upd (upd (upd (upd H6 a1 (.tup [.str "f", .int 1])) a2 (.tup [.str "g", .int 2])) a3 (.tup [.str "f", .int 1])) a4 (.tup [.str "7", .int 0])) a5 (.tup [.str "add", .int 2])) a6 (.tup [.str "h", .int 3])) a7 (.tup [.str "f", .int 2])) a8 (.lst [.ref a1, .ref a2, .ref a3, .ref a4, .ref a5, .ref a6, .ref a7])) a8 = some (.lst [.ref a1, .ref a2, .ref a3, .ref a4, .ref a5, .ref a6, .ref a7]) := upd_same
              obtain ⟨x7, n7⟩ := keep x6 n6 f7
              have h8b : a8 ≠ b := fun z => by
                obtain ⟨_, _, _, _, hb', _⟩ := x7.bag
                rw [← z, e8] at hb'
                cases hb'
              generalize upd (upd (upd (upd (upd (upd (upd (upd H6 a1 (.tup [.str "f", .int 1])) a2 (.tup [.str "g", .int 2])) a3 (.tup [.str "f", .int 1])) a4 (.tup [.str "7", .int 0])) a5 (.tup [.str "add", .int 2])) a6 (.tup [.str "h", .int 3])) a7 (.tup [.str "f", .int 2])) a8 (.lst [.ref a1, .ref a2, .ref a3, .ref a4, .ref a5, .ref a6, .ref a7]) = H7 at f7 hnk e8 x7 n7 ⊢
              clear ha1 ha2 ha3 ha4 ha5 ha6 ha7 ha8
              refine ⟨b, c, a8, _, rfl, List.cons_ne_nil _ _, Nat.lt_of_le_of_lt (Nat.le_of_ble_eq_true rfl : 7 ≤ 7) (by decide), h8b, .inl (SqL.of e8), x7.bag, fun v H8 hv B8 f8 => ?_⟩
              obtain ⟨x8, n8⟩ := turn x7 n7 f8 B8
              obtain ⟨km, hkm, nkm⟩ := hnk.mem hv
              have nkm8 := NK.mono (x7.bag.tp f8) _ _ nkm
              obtain ⟨o, n, ho, hn3, rfl⟩ : ∃ (o : Str) (n : Nat), o ∈ opsW ∧ n ≤ 3 ∧ km = .tup [.text o, .num (n : Int)] := by
                simp only [menuK, List.mem_cons, List.not_mem_nil, or_false] at hkm
                rcases hkm with rfl | rfl | rfl | rfl | rfl | rfl | rfl
                · exact ⟨"f", 1, by decide +kernel, by decide, rfl⟩
                · exact ⟨"g", 2, by decide +kernel, by decide, rfl⟩
                · exact ⟨"f", 1, by decide +kernel, by decide, rfl⟩
                · exact ⟨"7", 0, by decide +kernel, by decide, rfl⟩
                · exact ⟨"add", 2, by decide +kernel, by decide, rfl⟩
                · exact ⟨"h", 3, by decide +kernel, by decide, rfl⟩
                · exact ⟨"f", 2, by decide +kernel, by decide, rfl⟩
              cases nkm8 with
              | tup em rm =>
                cases rm with
                | cons r1 r2 =>
                  cases r1
                  cases r2 with
                  | cons r2 r3 =>
                    cases r2
                    cases r3
                    refine ⟨_, _, rfl, SqT.of em, rfl, _, _, rfl, w_name ⟨_, _, rfl, w_name ⟨rfl, ?_⟩⟩⟩
                    walk_at "rs rd"
                    refine ⟨(n : Int), rfl, by omega, by omega, fun D hD => ?_⟩
                    have hDb : D ≠ b := fun z => by
                      obtain ⟨_, _, _, _, hb', _⟩ := x8.bag
                      rw [z, hb'] at hD
                      cases hD
                    have hcD : c ≠ D := fun z => by
                      obtain ⟨_, _, _, _, _, _, _, hc', _⟩ := x8.bag
                      rw [← z, hc'] at hD
                      cases hD
                    have hqD : q ≠ D := ne_of_none x8.here hD
                    have hD0 : H D = none := x8.fr.none hD (not_in1 hDb)
                    have onD : ∀ {A : Hp} {ys zs : List V}, A D = some (.lst ys) → RSt b c q H A L rs → NK A k0 (.ref p) → RSt b c q H (upd A D (.lst zs)) L rs ∧ NK (upd A D (.lst zs)) k0 (.ref p) := fun {A ys zs} e x nkA => by
                      have tp : ∀ a xs, A a = some (.tup xs) → upd A D (.lst zs) a = some (.tup xs) := fun a xs e2 => by
                        rw [upd_ne (fun z => by rw [z, e] at e2; cases e2)]
                        exact e2
                      obtain ⟨cur, seed, ix, ms, g1, p1, p2, g2, p3⟩ := x.bag
                      exact ⟨⟨by rw [upd_ne hqD]; exact x.here, NKs.mono tp _ _ x.nks, x.row, x.nd, ⟨cur, seed, ix, ms, by rw [upd_ne hDb.symm]; exact g1, p1, p2, by rw [upd_ne hcD]; exact g2, p3⟩, x.fr.thenOwn hD0⟩, NK.mono tp _ _ nkA⟩
                    obtain ⟨xD, nD⟩ := keep x8 n8 (Fm.new (o := .lst []) hD)
                    have hLpos : 1 ≤ L.length := List.length_pos_iff.mpr hne
                    refine lc_it (walk_range (lo := 0) (n := (n : Int).toNat)) (fun j H' => ∃ ns : List Int, ns.length = j ∧ (∀ x ∈ ns, 0 ≤ x ∧ x < (L.length : Int)) ∧ H' D = some (.lst (ns.map V.int)) ∧ RSt b c q H H' L rs ∧ NK H' k0 (.ref p))
                      ⟨[], rfl, by simp, upd_same, xD, nD⟩ (fun _ _ _ _ => trivial) ?_ ?_
                    · rintro j x H9 H10 hj ⟨ns, hnl, hnb, eD, x9, n9⟩ ⟨rfl, rfl⟩
                      rw [Int.toNat_natCast] at hj
                      refine w_name ⟨rfl, w_yes ?_⟩
                      have h9 := x9.here
                      walk_at "rs rd"
                      refine ⟨b, c, _, rfl, by omega, by omega, x9.bag, fun u2 H11 v0 v1 B11 f11 => ?_⟩
                      obtain ⟨x11, n11⟩ := turn x9 n9 f11 B11
                      have eD11 := f11 _ _ eD (not_in1 hDb)
                      have h11 := x11.here
                      walk_at "rs rd"
                      rename_i m hm
                      obtain ⟨x12, n12⟩ := keep x11 n11 (Fm.new (o := .lst [.int u2, .int ((rs.length : Int) - 1)]) hm)
                      have eD12 := (Fm.new (o := .lst [.int u2, .int ((rs.length : Int) - 1)]) hm : Fm [] H11 _) _ _ eD11 List.not_mem_nil
                      have hmb : m ≠ b := fun z => by
                        obtain ⟨_, _, _, _, hb', _⟩ := x11.bag
                        rw [z, hb'] at hm
                        cases hm
                      refine ⟨b, c, m, _, rfl, List.cons_ne_nil _ _, Nat.lt_of_le_of_lt (Nat.le_of_ble_eq_true rfl : 2 ≤ 2) (by decide), hmb, .inl (SqL.of upd_same), x12.bag, fun v H13 hv B13 f13 => ?_⟩
                      obtain ⟨x13, n13⟩ := turn x12 n12 f13 B13
                      have eD13 := f13 _ _ eD12 (not_in1 hDb)
                      obtain ⟨y, rfl, y0, y1⟩ : ∃ y : Int, v = .int y ∧ 0 ≤ y ∧ y < (L.length : Int) := by
                        simp only [List.mem_cons, List.not_mem_nil, or_false] at hv
                        rcases hv with rfl | rfl
                        · exact ⟨_, rfl, v0, by omega⟩
                        · exact ⟨_, rfl, by omega, by omega⟩
                      obtain ⟨x14, n14⟩ := onD (zs := ns.map V.int ++ [V.int y]) eD13 x13 n13
                      refine ⟨_, eD13, by rw [List.length_map, sizeLine_eq]; omega, ns ++ [y], by simp [hnl], fun z hz => ?_, by rw [upd_same, List.map_append]; rfl, x14, n14⟩
                      rcases List.mem_append.mp hz with hz | hz
                      · exact hnb z hz
                      · rw [List.mem_singleton] at hz
                        subst hz
                        exact ⟨y0, y1⟩
                    · rintro H9 ⟨ns, hnl, hnb, eD, x9, n9⟩
                      rw [Int.toNat_natCast] at hnl
                      walk_at "rs rd"
                      refine ⟨D, _, rfl, .inl ⟨SqL.of eD, fun t1 ht1 => ?_⟩⟩
                      walk_at "rs rd"
                      rename_i t ht
                      obtain ⟨x10, _⟩ := keep x9 n9 ((Fm.new (o := .tup (ns.map V.int)) ht1).thenNew (o := .tup [.str "op", .str o, .ref t1]) ht)
                      exact ⟨t, .tup [.text "op", .text o, .tup (ns.map .num)], _, _, rfl, x10, .tup upd_same (.cons (.text _) (.cons (.text _) (.cons (.tup (by walk_at "rs hp") (nums_of ns)) .nil))), .inr ⟨o, ns, ho, by omega, hnb, rfl⟩⟩
            · exact w_next ⟨p, k0, _, _, rfl, x6, n6, hk4⟩
          · rw [if_neg Bool.false_ne_true]
            exact w_next ⟨p, k0, _, _, rfl, x5, n5, hk4⟩
        · rintro σ H5 ⟨p, k1, o5, o6, rfl, x5, nk5, hk5⟩
          have hrm : ∀ k ∈ L, ∃ i ≤ 100, WRow i k := fun k hk => by
            obtain ⟨j, hj⟩ := List.getElem?_of_mem hk
            exact ⟨j, by have := (List.getElem?_eq_some_iff.mp hj).1; omega, x5.row j k hj⟩
          have sh := wrows_ok hrm
          have ok1 := hk5.ok (by omega)
          have h5 := x5.here
          walk_at "rs rd"
          refine ⟨toPy k1, toPys L, NK.dp _ _ nk5, .lst (SqL.of h5) (NKs.dp _ _ x5.nks), ?_, sh, ?_⟩
          · unfold SeqAt.shaped
            rw [okD_lay _ ok1.1, decide_eq_true (show (toPy k1).depth ≤ 64 by have := ok1.2; omega)]
            rfl
          · rw [any_toPy]
            refine ⟨_, rfl, ?_⟩
            refine w_iteN (fun hn => ?_) (fun hin => ?_)
            · walk_at "rs rd"
              refine w_append h5 (by rw [sizeLine_eq, ← hll]; omega) ?_
              have put : ∀ a xs, H5 a = some (.tup xs) → upd H5 q (.lst (rs ++ [.ref p])) a = some (.tup xs) := fun a xs e => by
                rw [upd_ne (fun z => by rw [z, h5] at e; cases e)]
                exact e
              refine w_next ⟨_, _, _, _, L ++ [k1], rs ++ [.ref p], rfl, ⟨upd_same, NKs.snoc (NK.mono put _ _ nk5) (NKs.mono put _ _ x5.nks), fun i' k' e => ?_, ?_, ?_, x5.fr.thenOwn hq⟩, by rw [List.length_append, List.length_singleton]; omega, fun _ => by rw [List.length_append, List.length_singleton]; omega⟩
              · by_cases hi' : i' < L.length
                · rw [List.getElem?_append_left hi'] at e
                  exact x5.row i' k' e
                · have hlt := (List.getElem?_eq_some_iff.mp e).1
                  rw [List.length_append, List.length_singleton] at hlt
                  obtain rfl : i' = L.length := by omega
                  rw [List.getElem?_concat_length] at e
                  cases e
                  exact hk5
              · rw [List.nodup_append]
                exact ⟨x5.nd, by simp, fun a ha z hz => by
                  rw [List.mem_singleton] at hz
                  subst hz
                  exact fun e => hn (by rw [← e]; exact ha)⟩
              · obtain ⟨cur, seed, ix, ms, e1, p1, p2, e2, p3⟩ := x5.bag
                exact ⟨cur, seed, ix, ms, by rw [upd_ne hqb.symm]; exact e1, p1, p2, by rw [upd_ne hqc]; exact e2, p3⟩
            · refine w_next ⟨_, _, _, _, L, rs, rfl, x5, by omega, fun _ => ?_⟩
              have := List.length_pos_of_mem hin
              omega
    · rintro σ H1 ⟨o3, o4, o5, o6, L, rs, rfl, x1, hle, hpos⟩
      walk_at "rs rd"
      exact k q L rs H1 hq x1.here x1.nks x1.row x1.nd hpos hle x1.bag x1.fr
end
end Rs

set_option Elab.async false
set_option linter.all false
set_option maxRecDepth 100000
set_option maxHeartbeats 4000000
/-! sorted(a dict of ints), any number of keys -/
namespace Rs
open PySem L2 PySem.Spec PyProof.Rows
theorem call_sortedAny {X : Cx} (calm : X.calm = true) : CallR X (.builtin "sorted") (fun vs0 H Q => ∃ (d : Addr) (kv : List (Key × V)) (ns : List Int), vs0 = [.ref d] ∧ H d = some (.dK kv) ∧ kv.map (·.1) = ns.map Sum.inl ∧
    ∀ (ys : List Int) (p : Addr), ys.Perm ns → ys.Pairwise (· ≤ ·) → H p = none → Q (.ref p) (upd H p (.lst (ys.map V.int)))) := by
  intro pins s σ H vs0 us Q I r ⟨d, kv, ns, ex, hd, hks, q⟩
  subst ex
  obtain ⟨u, eu, rx⟩ := vals1 r
  subst eu
  cases rx
  obtain ⟨z, lo, xs, rel, dd⟩ := dk_rd I.hok (.inl hd)
  obtain ⟨ep, hat⟩ := dd.dictAt
  have keys : xs.map (·.1) = ns.map Sum.inl := rel.keys.symm.trans hks
  have nlen : xs.length = ns.length := by simpa using congrArg List.length keys
  have fit : xs.length ≤ sizeLine := by rw [← Paired.length rel]; exact z
  refine Calls.call_function_entry kind_sorted plain_sorted entry_sorted (args_sorted1 _) ?_
  unfold Builtin.«sorted»
  refine wpAny_bind (m := checkCount "sorted" 1 1 _) (wpAny_pure ?_)
  refine wpAny_bind (PySem.W.kdu_collect (A := X.A.in1) (PySem.W.kdl_dict (knd := mixKind X.prog X.w) (kvs := xs) (ep := ep) lo) (I.ok.hd calm) hat fit fun hp tk acc keep got => ?_)
  have alen : acc.toList.length = ns.length := by rw [Array.length_toList, got.1, nlen]
  have are : IntsAre acc.toList ns := ints_each alen fun j v e => by
    obtain ⟨k, x, e1, e2⟩ := got.2 j v (by rw [← Array.getElem?_toList]; exact e)
    have e3 : (xs.map (·.1))[j]? = some k := by rw [List.getElem?_map, e1]; rfl
    rw [keys, List.getElem?_map] at e3
    obtain ⟨y, ey, e5⟩ := Option.map_eq_some_iff.mp e3
    subst e5
    rcases keyIs_shape (show keyIs (Sum.inl y) v = true from e2) with ⟨i, t, ek, ev⟩ | ⟨w, t, ek, ev⟩
    · cases ek
      exact ⟨y, t, ey, ev⟩
    · cases ek
  have I1 : Inv X pins σ H { s with heap := hp, toks := tk } := I.kept keep
  have asz : acc.toList.length ≤ sizeLine := by rw [alen, ← nlen]; exact fit
  refine wpAny_bind (wpAny_newList ?_ asz)
  have hL : (hp.push (seqObj "list" acc.toList.toArray 0)).get? hp.objs.size = some (seqObj "list" acc.toList.toArray 0) := Heap.get?_push_size _ rfl
  show wpAny _ _ _ _ _ { s with heap := hp.push (seqObj "list" acc.toList.toArray 0), toks := tk }
  refine wpAny_bind (wpAny_holding (wpAny_call_entry slot_list_sort ⟨_, hL, rfl⟩ entry_list_sort
    (SrtO.list_sort_ord (s := { s with heap := hp.push (seqObj "list" acc.toList.toArray 0), toks := tk }) SrtO.swo_int hL asz (fun two => SrtO.ints_sortable are two) fun out o1 o2 => ⟨_, rfl, ?_⟩) (args_list_sort _)))
  obtain ⟨k1, k2, k3⟩ := SrtO.ints_out are o1 o2
  obtain ⟨e', he'⟩ := sortedHeap_at (vs := acc.toList) (out := out.toArray) hL
  have olen : ((out.map SrtO.iv).map V.int).length ≤ sizeLine := by
    rw [List.length_map, k2.length_eq, ← nlen]
    exact fit
  refine wpAny_pure ⟨_, rfl, .ref hp.objs.size, upd H hp.objs.size (.lst ((out.map SrtO.iv).map V.int)), I1.laid (t' := tk) (fun b u e => ?_) (Nat.le_refl _) ⟨olen, out, e', vals_of_ints k1, he'⟩, rfl, q _ _ k2 k3 (I1.hok.fresh (Nat.le_refl _))⟩
  have lb : b < hp.objs.size := Heap.lt_size e
  rw [sortedHeap_old (Nat.ne_of_lt lb) (by rw [size_push']; exact Nat.lt_succ_of_lt lb)]
  exact Heap.get?_push_of_some _ e
end Rs

set_option Elab.async false
set_option linter.all false
set_option maxRecDepth 100000
set_option maxHeartbeats 4000000
/-! _law_closure -/
namespace Rs
open PySem L2 PySem.Spec PyProof.Rows
local macro_rules | `(tactic| walk_at "rs ne") => `(tactic| first | assumption | (apply Ne.symm; assumption) | (apply ne_n1; assumption; walk_at "rs hp") | (apply ne_n2; assumption; walk_at "rs hp"))
local macro_rules | `(tactic| walk_at "rs hp") => `(tactic| first | assumption | exact upd_same | (apply hp_ne; (walk_at "rs ne"); (walk_at "rs hp")))
local macro_rules | `(tactic| walk_at "rs sq") => `(tactic| first | assumption | (apply SqL.of; walk_at "rs hp") | (apply SqT.of; walk_at "rs hp"))
local macro_rules | `(tactic| walk_at "rs sz") => `(tactic| first | decide | (rw [sizeLine_eq]; simp; done) | (rw [sizeLine_eq]; simp; omega) | (rw [sizeLine_eq]; omega))
local macro_rules | `(tactic| walk_at "rs ar") => `(tactic| first | assumption | (show (0 : Int) < _; first | assumption | decide | omega) | exact Or.inr ⟨by decide, by decide⟩ | exact Or.inl ⟨by decide, by decide⟩ | exact Or.inl ⟨by omega, by omega⟩ | exact Or.inr ⟨by omega, by omega⟩ | exact ⟨by decide, by decide, by decide⟩ | exact ⟨by decide, by decide⟩ | exact ⟨by omega, by omega⟩)
local macro_rules | `(tactic| walk_at "rs r1") => `(tactic| with_reducible (first | refine w_var rfl ?_ | refine w_c ?_ | refine w_op ?_ | refine w_un ?_ | refine w_test ?_ | refine w_B ?_ | refine w_bool ?_ | refine w_not ?_ | refine w_cb ?_ | refine w_nil ?_ | refine w_cons ?_ | refine w_asg ?_ | refine w_name ?_ | refine w_seq ?_ | refine w_ret ?_ | refine w_drop ?_ | refine w_next ?_ | refine w_ifS ?_ | refine w_I0 ?_ | refine w_eqI ?_ | refine w_neI ?_ | refine w_int ?_ | refine w_abs ?_ | refine w_sl ?_ | refine w_part ?_ | refine w_intO ?_ | refine w_nopart ?_ | refine w_gsub ?_ | refine w_augS ?_ | refine w_ip ?_ | refine w_lst ?_ | refine w_tup ?_ | refine w_if ?_ | refine w_and ?_ | refine w_or ?_ | refine w_tfld ?_ | refine w_forL ?_ | refine w_forT ?_ | refine w_forR1 ?_ | refine w_forR2 ?_ | refine w_forE ?_ | refine w_lcL ?_ | refine w_lcR1 ?_ | refine w_bm ?_ | refine w_call ?_ | refine w_meth ?_ | refine w_nget ?_ | refine w_nin ?_ | refine w_nput ?_ | refine w_eqS ?_ | refine w_neS ?_))
local macro_rules | `(tactic| walk_at "rs r2") => `(tactic| first | (walk_at "rs r1") | ((with_reducible refine' w_ixL ?h1 ?h2 ?h3); (case h1 => walk_at "rs sq"); (case h2 => first | rfl | exact atI_nat (j := 0) rfl | exact atI_nat (j := 1) rfl | exact atI_nat (j := 2) rfl)) | ((with_reducible refine' w_ixT ?h1 ?h2 ?h3); (case h1 => walk_at "rs sq"); (case h2 => first | rfl | exact atI_nat (j := 0) rfl | exact atI_nat (j := 1) rfl | exact atI_nat (j := 2) rfl)) | ((with_reducible refine' w_cutL ?h1 ?_); (case h1 => walk_at "rs sq"); intro q hq) | ((with_reducible refine' w_cat ?h1 ?h2 ?h3 ?_); (case h1 => walk_at "rs hp"); (case h2 => walk_at "rs hp"); (case h3 => walk_at "rs sz"); intro q hq) | ((with_reducible refine' w_small ?h1 ?_); (case h1 => exact Nat.le_of_ble_eq_true rfl); intro q hq) | ((with_reducible refine' w_setL ?h1 ?h2 ?_); (case h1 => walk_at "rs hp"); (case h2 => rfl)) | ((with_reducible refine' w_getL ?h0 ?h1 ?h2 ?_); (case h0 => rfl); (case h1 => walk_at "rs sq"); (case h2 => rfl)) | ((with_reducible refine' w_lenL ?h1 ?_); (case h1 => walk_at "rs sq")) | ((with_reducible refine' w_lenT ?h1 ?_); (case h1 => walk_at "rs sq")) | ((with_reducible refine' w_fld ?h1 ?h2 ?h3 ?h4 ?_); (case h1 => assumption); (case h2 => assumption); (case h3 => walk_at "rs hp"); (case h4 => assumption)) | ((with_reducible refine' w_methAt ?h1 ?h2 ?_); (case h1 => walk_at "rs hp"); (case h2 => assumption)) | ((with_reducible refine' w_tyL ?h1 ?_); (case h1 => walk_at "rs sq")) | ((with_reducible refine' w_append ?h1 ?h2 ?_); (case h1 => walk_at "rs hp"); (case h2 => assumption)) | ((with_reducible refine' w_I ?h1 ?_); (case h1 => walk_at "rs ar")))
local macro_rules | `(tactic| walk_at "rs rd") => `(tactic| repeat (walk_at "rs r2"))
abbrev sClo : Stmt := top 19
structure Txt5 (mg : Str → Option Value) : Prop where
  enumerate : mg "enumerate" = none
  sorted : mg "sorted" = none
theorem builtL_succ {L : List NestedKey} {seen : List Int} {i : Nat} : builtL L seen (i + 1) = builtL L seen i ++ if (marksL L seen).getD i false = true then [i] else [] := by
  unfold builtL
  rw [List.range_succ, List.filter_append, List.filter_cons, List.filter_nil]
theorem mem_builtL {L : List NestedKey} {seen : List Int} {n m : Nat} : m ∈ builtL L seen n ↔ m < n ∧ (marksL L seen).getD m false = true := by
  unfold builtL
  rw [List.mem_filter, List.mem_range]
theorem builtL_len {L : List NestedKey} {seen : List Int} {n : Nat} : (builtL L seen n).length ≤ n := by
  have := List.length_filter_le (fun i => (marksL L seen).getD i false) (List.range n)
  rw [List.length_range] at this
  exact this
theorem flat_ints : ∀ ns : List Int, (ns.map V.int).all flatV = true
  | [] => rfl
  | _ :: r => flat_ints r
theorem inV_ints (n : Int) : ∀ ns : List Int, inV (.int n) (ns.map V.int) = decide (n ∈ ns)
  | [] => rfl
  | m :: r => by
    show ((m == n) || inV (.int n) (r.map V.int)) = _
    rw [inV_ints n r, Bool.eq_iff_iff, Bool.or_eq_true, decide_eq_true_iff, decide_eq_true_iff, List.mem_cons, beq_iff_eq]
    exact ⟨fun h => h.imp Eq.symm id, fun h => h.imp Eq.symm id⟩
theorem nums_shaped {fs : List Int} (h : ∀ p ∈ fs, 0 ≤ p ∧ p < 100000) : SeqAt.shaped (.list (toPys (fs.map .num))) = true := by
  have hA : ∀ ns : List Int, (∀ n ∈ ns, 0 ≤ n ∧ n < 100000) → okDs (toPys (ns.map .num)) = true ∧ PyData.depthAll (toPys (ns.map .num)) ≤ 1 := fun ns => by
    induction ns with
    | nil => exact fun _ => ⟨rfl, Nat.zero_le _⟩
    | cons n r ih =>
      intro h
      have h1 := h n List.mem_cons_self
      obtain ⟨i1, i2⟩ := ih fun q hq => h q (List.mem_cons_of_mem _ hq)
      refine ⟨?_, ?_⟩
      · show (decide (n.natAbs < 10 ^ 12) && okDs (toPys (r.map .num))) = true
        rw [i1, decide_eq_true (by omega)]
        rfl
      · show max (PyData.depth (toPy (.num n))) (PyData.depthAll (toPys (r.map .num))) ≤ 1
        have : PyData.depth (toPy (.num n)) = 0 := rfl
        omega
  obtain ⟨a, b⟩ := hA fs h
  unfold SeqAt.shaped
  have hd : (PyData.list (toPys (fs.map .num))).depth ≤ 64 := by
    show PyData.depthAll (toPys (fs.map .num)) + 1 ≤ 64
    omega
  rw [okD_lay (.list (toPys (fs.map .num))) a, decide_eq_true hd]
  rfl
/-- the nodes that are built, in their order -/
def spClo (K : PySem.W.Frag) : Sp := fun vs H Q _ => ∃ (rp sn : Addr) (L : List NestedKey) (rs : List V) (seen : List Int), vs = [.ref rp, .ref sn] ∧ H rp = some (.lst rs) ∧ NKs H L rs ∧ H sn = some (.tup (seen.map V.int)) ∧ L.length ≤ 3000 ∧ seen.length ≤ 100 ∧ (∀ s ∈ seen, 0 ≤ s ∧ s < (L.length : Int)) ∧ RowsAt L ∧
  ∀ q H', H q = none → H' q = some (.lst ((builtL L seen L.length).map fun i : Nat => V.int i)) → Fm [] H H' → Q (.ref q) H'
section
variable {P : Program} {w : World} {K : PySem.W.Frag} {mg : Str → Option Value} {base : Heap}
theorem scClo : FnScope ["rows", "seen", "found", "at", "row", "part"] ["rows", "seen"] (defScope sClo) := ⟨rfl, rfl, rfl, by decide +kernel, rfl, by decide +kernel, by decide +kernel⟩
theorem ok_clo {f : Addr} {fd : FuncData} (F : Fun K "_law_closure" "_law_closure" sClo f fd) (T5 : Txt5 mg) : FnOk P w K mg base CX0 1 f fd ["rows", "seen"] (spClo K) := by
  refine F.ok scClo (fun vs H Q E h => ?_) (fun cdv A outer s H vs Q E hr h => ?_)
  · obtain ⟨rp, sn, L, rs, seen, rfl, _⟩ := h
    rfl
  · obtain ⟨rp, sn, L, rs, seen, rfl, hrp, nks, hsn, hlen, hsl, hse, hR, k⟩ := h
    have nd := scClo.nd
    have hu1 := hu_of hr
    refine ⟨_, (pss_cons (ps_set (i := 2) nd rfl (Or.inr rfl) pe_dnewK) (Evl.pss_cut (ps_for PassesOwn.never rfl (pi_enum rfl T5.enumerate (pa_cons (pv 0) pa_nil)) (pg_tup rfl (pgs_cons (pg_name (i := 3) nd rfl (Or.inl rfl)) (pgs_cons (pg_name (i := 4) nd rfl (Or.inl rfl)) pgs_nil))) (pss_one (ps_if (PW.pt (pw_or (pt_cmpR op_in_seq (pv 3) (pv 1) rfl) (pw_or1 (PW.pt (pw_and (pt_cmpR op_eq (pe_ix ix_tup (pv 4) pe_int (fun _ _ => rfl)) pe_str (nomark _)) (pw_and1 (pt_cmpR (op_eqD hr.units) (pe_lc (own := [("part", 5)]) (g := gName 5) (tt := (tB (tDNotIn (tVar 5) (tVar 2)))) rfl nd (pi_tup (pe_ix ix_tup (pv 4) pe_int (fun _ _ => rfl))) (blkOk_by (N := ["rows", "seen", "found", "at", "row", "part"]) (sc := defScope sClo) (by decide +kernel)) (fun _ _ _ _ _ => pg_name (i := 5) nd rfl (Or.inl rfl)) (fun _ _ _ _ _ => pts_one (pt_cmp (pc_dnotin hu1 (pv 5) (pv 2)))) (fun _ _ _ _ _ => (pv 5))) (pe_lst pa_nil) (nomark _)))))))) (pss_one (ps_dput hu1 (pv 2) (pv 3) pe_bl (by rfl))) pss_nil))) (pss_one (ps_ret (pe_callB (call_sortedAny rfl) (by rfl) T5.sorted (by decide +kernel) (pa_cons (pv 2) pa_nil)))))), ?_⟩
    walk_at "rs rd"
    refine w_dnew fun d hd => ?_
    have f1 : Fm [] H (upd H d (.dK [])) := Fm.new hd
    have e1 : upd H d (.dK []) d = some (.dK []) := upd_same
    generalize upd H d (.dK []) = H1 at f1 e1 ⊢
    refine w_name ?_
    refine w_cut (M := fun σ H' => ∃ o3 o4 kvs, σ = [some (.ref rp), some (.ref sn), some (.ref d), o3, o4, none] ∧ H' d = some (.dK kvs) ∧ kvs.map (·.1) = (builtL L seen L.length).map (fun i : Nat => (Sum.inl (i : Int) : Key)) ∧ Fm [] H H') ?_ ?_
    · refine w_forE ?_
      walk_at "rs rd"
      refine ⟨rp, rs, rfl, SqL.of (f1 _ _ hrp List.not_mem_nil), for_it (walk_enum (xs := rs)) (fun i σ H' => ∃ o3 o4 kvs, σ = [some (.ref rp), some (.ref sn), some (.ref d), o3, o4, none] ∧ H' d = some (.dK kvs) ∧ kvs.map (·.1) = (builtL L seen i).map (fun i : Nat => (Sum.inl (i : Int) : Key)) ∧ Fm [] H H')
        ⟨_, _, [], rfl, e1, rfl, f1⟩ (fun i σ H' _ ⟨_, _, _, _, _, _, f⟩ => SqL.of (f _ _ hrp List.not_mem_nil)) ?_ (fun σ H' ⟨o3, o4, kvs, e, e', p, f⟩ => ⟨o3, o4, kvs, e, e', by rw [← nks.len] at p; exact p, f⟩)⟩
      rintro i x σ H2 H3 hi ⟨o3, o4, kvs, rfl, e2, hk2, f2⟩ ⟨ta, x, v, rfl, hta, rfl, hx, hv⟩
      cases hx
      have hv' : rs[i]? = some v := hv
      have hiL : i < L.length := by rw [nks.len]; exact hi
      have hk : L[i]? = some L[i] := List.getElem?_eq_getElem hiL
      generalize L[i] = k0 at hk
      obtain ⟨v0, hv0, nk0⟩ := nks.get hk
      rw [hv'] at hv0
      cases hv0
      have f3 : Fm [] H (upd H2 ta (.tup [.int (i : Int), v])) := f2.thenNew hta
      have e3 : upd H2 ta (.tup [.int (i : Int), v]) d = some (.dK kvs) := (Fm.new hta : Fm [] H2 _) _ _ e2 List.not_mem_nil
      refine ⟨ta, _, rfl, SqT.of upd_same, rfl, _, _, rfl, w_name ⟨_, _, rfl, w_name ⟨rfl, ?_⟩⟩⟩
      generalize upd H2 ta (.tup [.int (i : Int), v]) = H4 at f3 e3 ⊢
      have hfew : kvs.length ≤ i := by
        have e := congrArg List.length hk2
        rw [List.length_map, List.length_map] at e
        rw [e]
        exact builtL_len
      have here : valV kvs (.inl (i : Int)) = none := by
        cases e : valV kvs (.inl (i : Int)) with
        | none => rfl
        | some u =>
          have hm := valV_in e
          rw [hk2, List.mem_map] at hm
          obtain ⟨m, hm, e'⟩ := hm
          have := (mem_builtL.mp hm).1
          cases e'
          omega
      have isIn : ∀ p : Int, 0 ≤ p → p < (i : Int) → (valV kvs (.inl p)).isSome = (marksL L seen).getD p.toNat false := fun p h0 h1 => by
        cases e : valV kvs (.inl p) with
        | none =>
          have hm := valV_not e
          rw [hk2, List.mem_map] at hm
          cases q : (marksL L seen).getD p.toNat false with
          | false => rfl
          | true => exact absurd ⟨p.toNat, mem_builtL.mpr ⟨by omega, q⟩, by rw [Int.toNat_of_nonneg h0]⟩ hm
        | some u =>
          have hm := valV_in e
          rw [hk2, List.mem_map] at hm
          obtain ⟨m, hm, e'⟩ := hm
          have hm2 := (mem_builtL.mp hm).2
          injection e' with e'
          rw [← e', Int.toNat_natCast, hm2]
          rfl
      have put : ∀ H5 : Hp, (marksL L seen).getD i false = true → H5 d = some (.dK kvs) → Fm [] H H5 → ∃ o3 o4 kvs', [some (V.ref rp), some (V.ref sn), some (V.ref d), some (V.int (i : Int)), some v, none] = [some (V.ref rp), some (V.ref sn), some (V.ref d), o3, o4, none] ∧
          upd H5 d (.dK (putK kvs (.inl (i : Int)) (.bl true))) d = some (.dK kvs') ∧ kvs'.map (·.1) = (builtL L seen (i + 1)).map (fun i : Nat => (Sum.inl (i : Int) : Key)) ∧ Fm [] H (upd H5 d (.dK (putK kvs (.inl (i : Int)) (.bl true)))) := fun H5 hm e5 f5 => by
        refine ⟨_, _, _, rfl, upd_same, ?_, f5.thenOwn hd⟩
        rw [putK_new _ here, List.map_append, hk2, builtL_succ, hm, if_pos rfl, List.map_append]
        rfl
      have mk := marksL_at (seen := seen) hk
      have hl : (marksL (L.take i) seen).length = i := by rw [marksL_len, List.length_take]; omega
      unfold stepM at mk
      rw [hl] at mk
      walk_at "rs rd"
      refine ⟨sn, _, rfl, .inr (SqT.of (f3 _ _ hsn List.not_mem_nil)), rfl, flat_ints seen, ?_⟩
      rw [if_neg Bool.false_ne_true, inV_ints]
      refine w_bool ?_
      by_cases hs : (i : Int) ∈ seen
      · rw [decide_eq_true hs] at mk ⊢
        rw [if_pos rfl, if_pos rfl]
        refine w_dput ?_
        walk_at "rs rd"
        refine ⟨d, _, rfl, DPut.k (k := .inl (i : Int)) e3 (by rw [sizeLine_eq]; omega), ?_⟩
        exact put _ (by rw [mk]; rfl) e3 f3
      · rw [decide_eq_false hs] at mk ⊢
        rw [if_neg Bool.false_ne_true]
        have tup3 : ∀ {a xs}, H a = some (.tup xs) → H4 a = some (.tup xs) := fun {a xs} e => f3 _ _ e List.not_mem_nil
        have skip : (marksL L seen).getD i false = false → ∀ {H5 : Hp} {o5 : Option V}, H5 d = some (.dK kvs) → Fm [] H H5 → ∃ o3' o4' kvs', [some (V.ref rp), some (V.ref sn), some (V.ref d), some (V.int (i : Int)), some v, none] = [some (V.ref rp), some (V.ref sn), some (V.ref d), o3', o4', none] ∧
            H5 d = some (.dK kvs') ∧ kvs'.map (·.1) = (builtL L seen (i + 1)).map (fun i : Nat => (Sum.inl (i : Int) : Key)) ∧ Fm [] H H5 := fun hm {H5 o5} e5 f5 => by
          refine ⟨_, _, _, rfl, e5, ?_, f5⟩
          rw [builtL_succ, hm, if_neg Bool.false_ne_true, List.append_nil]
          exact hk2
        obtain ⟨b, rfl⟩ | ⟨o, ns, rfl, h10, hb⟩ := hR i k0 hk
        · cases nk0 with
          | tup er rr =>
            cases rr with
            | cons r1 r2 =>
              cases r1
              have er4 := tup3 er
              walk_at "rs rd"
              rw [if_neg (by decide +kernel), if_neg Bool.false_ne_true]
              refine w_next ?_
              exact skip (by rw [mk]; rfl) (o5 := none) e3 f3
        · have hpo : partsOf (.tup [.text "op", .text o, .tup (ns.map .num)]) = ns := by
            show (ns.map NestedKey.num).map numOf = ns
            rw [List.map_map, show numOf ∘ NestedKey.num = id from rfl, List.map_id]
          rw [hpo] at mk
          cases nk0 with
          | tup er rr =>
            cases rr with
            | cons r1 r2 =>
              cases r1
              cases r2 with
              | cons r2 r3 =>
                cases r2
                cases r3 with
                | cons r3 r4 =>
                  cases r4
                  cases r3 with
                  | tup ep rp' =>
                    have ex := nums_vals rp'
                    subst ex
                    have er4 := tup3 er
                    have ep4 := tup3 ep
                    walk_at "rs rd"
                    rw [if_pos (by decide +kernel)]
                    refine w_test (w_op (w_lcT ?_))
                    walk_at "rs rd"
                    refine ⟨_, rfl, ⟨_, SqT.of ep4⟩, fun D hD => ?_⟩
                    have hdD : d ≠ D := ne_of_none e3 hD
                    refine lc_it (walk_tup (xs := ns.map V.int)) (fun t H' => H' D = some (.lst (((ns.take t).filter fun p => !(marksL L seen).getD p.toNat false).map V.int)) ∧ H' d = some (.dK kvs) ∧ Fm [] H4 H')
                      ⟨upd_same, by rw [upd_ne hdD]; exact e3, Fm.new hD⟩ (fun t H' _ ⟨_, _, f⟩ => SqT.of (f _ _ ep4 List.not_mem_nil)) ?_ ?_
                    · rintro t x H9 H10 ht ⟨eD, ed, f9⟩ ⟨rfl, hx2⟩
                      rw [List.getElem?_map] at hx2
                      obtain ⟨p, hp, rfl⟩ := Option.map_eq_some_iff.mp hx2
                      have hbp := hb p (List.mem_of_getElem? hp)
                      refine w_name ⟨rfl, w_B (w_dnotin (w_var rfl (w_var rfl ⟨d, _, rfl, DGet.k (k := .inl p) ed, w_bool ?_⟩)))⟩
                      rw [isIn p hbp.1 hbp.2]
                      have tk : ns.take (t + 1) = ns.take t ++ [p] := by rw [List.take_succ, hp]; rfl
                      rw [tk, List.filter_append, List.filter_cons, List.filter_nil]
                      cases hm : (marksL L seen).getD p.toNat false with
                      | true =>
                        rw [if_neg (by decide), if_neg (by decide), List.append_nil]
                        exact ⟨eD, ed, f9⟩
                      | false =>
                        rw [if_pos (by decide), if_pos (by decide), List.map_append]
                        have hfl := List.length_filter_le (fun p : Int => !(marksL L seen).getD p.toNat false) (ns.take t)
                        rw [List.length_take] at hfl
                        exact w_var rfl ⟨_, eD, by rw [List.length_map, sizeLine_eq]; omega, upd_same, by rw [upd_ne hdD]; exact ed, f9.thenOwn hD⟩
                    · rintro H9 ⟨eD, ed, f9⟩
                      rw [List.length_map, List.take_length] at eD
                      walk_at "rs rd"
                      rename_i e0 he0
                      have hDe : D ≠ e0 := ne_of_none eD he0
                      have hde : d ≠ e0 := ne_of_none ed he0
                      have hf10 := List.length_filter_le (fun p : Int => !(marksL L seen).getD p.toNat false) ns
                      have hfb : ∀ p ∈ ns.filter (fun p : Int => !(marksL L seen).getD p.toNat false), 0 ≤ p ∧ p < 100000 := fun p hp => by
                        have := hb p (List.mem_filter.mp hp).1
                        omega
                      have hnil : (ns.filter fun p : Int => !(marksL L seen).getD p.toNat false) = [] ↔ (ns.all fun p => (marksL (L.take i) seen).getD p.toNat false) = true := by
                        rw [List.filter_eq_nil_iff, List.all_eq_true]
                        refine forall_congr' fun p => forall_congr' fun hp => ?_
                        have := hb p hp
                        rw [marksL_lo (Nat.le_of_lt hiL) (by omega)]
                        cases (marksL L seen).getD p.toNat false <;> decide
                      generalize (ns.filter fun p : Int => !(marksL L seen).getD p.toNat false) = fs at eD hf10 hfb hnil
                      have f11 : Fm [] H (upd H9 e0 (.lst [])) := (f3.trans f9).thenNew he0
                      have ed11 : upd H9 e0 (.lst []) d = some (.dK kvs) := by rw [upd_ne hde]; exact ed
                      refine ⟨.list (toPys (fs.map .num)), .list [], .lst (SqL.of (by rw [upd_ne hDe]; exact eD)) (NKs.dp _ _ (nums_of fs)), .lst (SqL.of upd_same) .nil, nums_shaped hfb, by decide +kernel, ?_⟩
                      rw [eqv_nil]
                      refine w_bool ?_
                      refine w_ite (fun hn => ?_) (fun hn => ?_)
                      · refine w_dput ?_
                        walk_at "rs rd"
                        refine ⟨d, _, rfl, DPut.k (k := .inl (i : Int)) ed11 (by rw [sizeLine_eq]; omega), ?_⟩
                        exact put _ (by rw [mk, hnil.mp (List.map_eq_nil_iff.mp hn)]; show (false || (!decide (("op" : Str) = "letter") && true)) = true; decide +kernel) ed11 f11
                      · refine w_next ?_
                        refine skip ?_ (o5 := none) ed11 f11
                        rw [mk, show (ns.all fun p => (marksL (L.take i) seen).getD p.toNat false) = false by cases q : (ns.all fun p => (marksL (L.take i) seen).getD p.toNat false); rfl; exact absurd (List.map_eq_nil_iff.mpr (hnil.mpr q)) hn, Bool.and_false]
                        rfl
    · rintro σ H2 ⟨o3, o4, kvs, rfl, e2, hk2, f2⟩
      walk_at "rs rd"
      refine ⟨d, kvs, (builtL L seen L.length).map fun i : Nat => (i : Int), rfl, e2, by rw [hk2, List.map_map]; rfl, fun ys p hp hw hn => ?_⟩
      have hs : ((builtL L seen L.length).map fun i : Nat => (i : Int)).Pairwise (· ≤ ·) := by
        rw [List.pairwise_map]
        exact List.Pairwise.imp (fun {a b} (h : a < b) => by omega) (List.Pairwise.filter _ List.pairwise_lt_range)
      have e := PySem.W.ksm_same hp hw hs
      subst e
      refine k p _ (f2.none hn List.not_mem_nil) ?_ (f2.thenNew hn)
      rw [upd_same, List.map_map]
      rfl
end
end Rs

set_option Elab.async false
set_option linter.all false
set_option maxRecDepth 100000
set_option maxHeartbeats 4000000
/-! list(d.items()), d's keys nested tuples -/
namespace Rs
open PySem L2 PySem.Spec PyProof.Rows
def putTV : Hp → List Addr → List (V × V) → Hp
  | H, a :: as, p :: kvs => putTV (upd H a (.tup [p.1, p.2])) as kvs
  | H, _, _ => H
theorem putTV_off {b : Addr} : ∀ (as : List Addr) (kvs : List (V × V)) (H : Hp), b ∉ as → putTV H as kvs b = H b
  | [], _, _, _ => rfl
  | _ :: _, [], _, _ => rfl
  | a :: as, p :: kvs, H, h => by
    show putTV (upd H a (.tup [p.1, p.2])) as kvs b = H b
    rw [putTV_off as kvs _ (fun z => h (List.mem_cons_of_mem _ z)), upd_ne (fun z => h (by rw [z]; exact List.mem_cons_self))]
theorem putTV_at : ∀ (as : List Addr) (kvs : List (V × V)) (H : Hp), as.length = kvs.length → as.Nodup → Paired (fun (t : Addr) (p : V × V) => putTV H as kvs t = some (.tup [p.1, p.2])) as kvs
  | [], [], _, _, _ => .nil
  | [], _ :: _, _, h, _ => by cases h
  | _ :: _, [], _, h, _ => by cases h
  | a :: as, p :: kvs, H, h, hn => by
    have hn' := List.nodup_cons.mp hn
    have ih := putTV_at as kvs (upd H a (.tup [p.1, p.2])) (Nat.succ.inj h) hn'.2
    refine .cons ?_ ih
    show putTV (upd H a (.tup [p.1, p.2])) as kvs a = some (.tup [p.1, p.2])
    rw [putTV_off as kvs _ hn'.1, upd_same]
theorem kvN {P : Program} {w : World} : ∀ {es : List (NestedKey × Addr × V)} {xs : List (NestedKey × Addr × Value)}, Paired (fun p q => p.1 = q.1 ∧ p.2.1 = q.2.1 ∧ RelV p.2.2 q.2.2) es xs →
    Paired (fun (p : V × V) (e : DictEntry) => RelV p.1 e.key ∧ RelV p.2 e.val) (es.map fun e => (V.ref e.2.1, e.2.2)) (xs.map (entryOfKey (nestedKind P w)))
  | _, _, .nil => .nil
  | _, _, .cons (a := p) (b := q) h t => .cons ⟨by show Value.ref q.2.1 = Value.ref p.2.1; rw [h.2.1], h.2.2⟩ (kvN t)
theorem pairMap {α β γ : Type} {R : α → γ → Prop} {f : β → γ} : ∀ {as : List α} {bs : List β}, Paired R as (bs.map f) → Paired (fun a b => R a (f b)) as bs
  | _, [], h => by cases h; exact .nil
  | _, b :: bs, h => by
    cases h with
    | cons h t => exact .cons h (pairMap t)
section
variable {X : Cx} {e : Expr} {te : TE} {p apos cpos pos : Pos}
theorem items_laidV {pins : List (Addr × Obj)} {σ : L2.St} {H : Hp} {s : Shared} {h' : Heap} {tk : Nat} {kvs : List (V × V)} {es : Array DictEntry} {acc : Array Value} {c : Nat} {as : List Addr} (I : Inv X pins σ H s) (hz : kvs.length ≤ sizeLine)
    (kv : Paired (fun (p : V × V) (e : DictEntry) => RelV p.1 e.key ∧ RelV p.2 e.val) kvs es.toList)
    (hk : ∀ b o, s.heap.get? b = some o → h'.get? b = some o) (hS : h'.get? s.heap.objs.size = some { cls := .type "list", dict := none, data := .seq acc c, slots := #[] }) (hl : as.length = es.size)
    (hG : PySem.W.DilG es s.heap.objs.size h' as) (hacc : acc.toList = as.map Value.ref) :
    ∃ H' : Hp, (∀ b o, H b = some o → H' b = some o) ∧ H s.heap.objs.size = none ∧ (∀ t ∈ as, H t = none) ∧ s.heap.objs.size ∉ as ∧ H' s.heap.objs.size = some (.lst (as.map V.ref)) ∧ Paired (fun (t : Addr) (q : V × V) => H' t = some (.tup [q.1, q.2])) as kvs ∧
      Inv X pins σ H' { s with heap := h', toks := tk } := by
  have lk : kvs.length = es.size := by have := Paired.length kv; rwa [Array.length_toList] at this
  have hSn : s.heap.objs.size ∉ as := fun z => Nat.lt_irrefl _ (hG.above _ z)
  have nd : as.Nodup := List.Pairwise.imp (fun {a b} (h : a < b) => Nat.ne_of_lt h) hG.rise
  have new : ∀ t ∈ as, H t = none := fun t ht => I.hok.fresh (Nat.le_of_lt (hG.above t ht))
  have newS : H s.heap.objs.size = none := I.hok.fresh (Nat.le_refl _)
  have atP := putTV_at as kvs (upd H s.heap.objs.size (.lst (as.map V.ref))) (by omega) nd
  have off : ∀ b, b ∉ as → b ≠ s.heap.objs.size → putTV (upd H s.heap.objs.size (.lst (as.map V.ref))) as kvs b = H b := fun b h1 h2 => by rw [putTV_off as kvs _ h1, upd_ne h2]
  have low : ∀ b o, s.heap.get? b = some o → b ∉ as ∧ b ≠ s.heap.objs.size := fun b o e => ⟨fun z => absurd (Heap.lt_size e) (Nat.not_lt.mpr (Nat.le_of_lt (hG.above b z))), Nat.ne_of_lt (Heap.lt_size e)⟩
  have kp : ∀ b u, H b = some u → (putTV (upd H s.heap.objs.size (.lst (as.map V.ref))) as kvs) b = some u := fun b u e => by
    rw [off b (fun z => by rw [new b z] at e; cases e) (fun z => by rw [z, newS] at e; cases e)]
    exact e
  have eS : putTV (upd H s.heap.objs.size (.lst (as.map V.ref))) as kvs s.heap.objs.size = some (.lst (as.map V.ref)) := by rw [putTV_off as kvs _ hSn, upd_same]
  refine ⟨putTV (upd H s.heap.objs.size (.lst (as.map V.ref))) as kvs, kp, newS, new, hSn, eS, atP, ?_⟩
  refine I.call' (ch := []) rfl ⟨fun b o q _ _ _ => hk b o q, fun b o q _ _ _ => ⟨o.slots, hk b o q⟩, fun b o q n _ => ?_, fun b o q _ => ⟨o, hk b o q⟩, fun b xs q => kp b _ q, fun b o u q => kp b _ q, fun b ps q => ⟨#[], by rw [kp b _ q]; simp⟩⟩ (fun b u q => ?_) I.bare fun b z => by simp at z
  · obtain ⟨z1, z2⟩ := low b o q
    rw [off b z1 z2]
    exact n
  · by_cases hb : b ∈ as
    · obtain ⟨j, pk, e1, e2, e3⟩ := LiI.paired_ix atP hb
      rw [e3] at q
      cases q
      obtain ⟨hj, f3⟩ := hG.pairs j b e1
      obtain ⟨en, g1, g2, g3⟩ := LiI.paired_get kv e2
      have ge : en = es[j] := by
        rw [Array.getElem?_toList, Array.getElem?_eq_getElem hj] at g1
        exact (Option.some.inj g1).symm
      rw [ge] at g2 g3
      exact ⟨by show 2 ≤ sizeLine; decide, [es[j].key, es[j].val], .cons g2 (.cons g3 .nil), ⟨_, f3, rfl, _, rfl⟩⟩
    · by_cases hb2 : b = s.heap.objs.size
      · rw [hb2] at q ⊢
        rw [eS] at q
        cases q
        refine ⟨by rw [List.length_map]; omega, acc.toList, c, by rw [hacc]; exact LiI.vals_refs as, ?_⟩
        rw [Array.toArray_toList]
        exact hS
      · rw [off b hb hb2] at q
        exact (I.hok b u q).stay (fun d v _ y => hk d v y) (fun d y => kp d _ y) fun d xs y => kp d _ y
def rItemsN (P : Program) (w : World) : V → Hp → VK → Prop := fun x H Q => ∃ (d : Addr) (kvs : List (NestedKey × V)), x = .ref d ∧ ND P w H d kvs ∧
  ∀ (H' : Hp) (p : Addr) (ts : List Addr) (es : List (NestedKey × Addr × V)), (∀ b o, H b = some o → H' b = some o) → H p = none → H' p = some (.lst (ts.map V.ref)) → Paired (fun (t : Addr) (e : NestedKey × Addr × V) => H' t = some (.tup [.ref e.2.1, e.2.2])) ts es →
    (∀ e ∈ es, NK H e.1 (.ref e.2.1) ∧ e.1.depth ≤ 8) → (es.map (·.1)).Nodup → kvs = es.map (fun e => (e.1, e.2.2)) → Q (.ref p) H'
def tItemsN (P : Program) (w : World) (te : TE) : TE := fun σ H Q => te σ H fun x H1 => rItemsN P w x H1 Q
theorem w_itemsN {P : Program} {w : World} {σ : L2.St} {H : Hp} {Q : VK} (k : te σ H fun x H1 => rItemsN P w x H1 Q) : tItemsN P w te σ H Q := k
/-- list(e.items()) -/
theorem pe_nitems (hc : X.calm = true) (he : PE X e te) (hg : Gl X "list") (hm : X.mg "list" = none) (hv : bootBuiltins "list" = some (.type "list")) (hbase : attributeBase e "items" X.env (eval e X.env) = eval e X.env := by rfl) (hline : (apos.endLine == cpos.line) = true := by rfl)
    (hs : starEach [.Call (.Attribute e "items" apos) [] [] cpos] X.env = (false, eval (.Call (.Attribute e "items" apos) [] [] cpos) X.env) :: starEach [] X.env := by rfl) :
    PE X (.Call (.Name "list" p) [.Call (.Attribute e "items" apos) [] [] cpos] [] pos) (tItemsN X.prog X.w te) := by
  refine ⟨fun pins s σ H Q I hq => ?_⟩
  refine wpAny_Call_Name_kw (ld_blt I hg hm hv ?_)
  refine PyProof.Rows.callWith_type1 ?_ hs rfl
  rw [hs]
  show wpAny _ _ (spliced ((false, eval (.Call (.Attribute e "items" apos) [] [] cpos) X.env) :: backTo pos (starEach [] X.env))) _ _ s
  refine Calls.spliced_cons ?_
  refine wpAny_Call_method (T := "dict") (id := "dict.items") hbase rfl hline F.plainAttrs_dict F.slot_dict_items F.type_dict_items (thn (he.run pins s σ H _ I hq) fun u s1 ⟨x, H1, I1, rx, d, kvs, ex, hd, q⟩ => ?_)
  subst ex
  obtain rfl : u = Value.ref d := rx
  obtain ⟨hz, hs0, es, xs, he1, hn, rfl, rel, dd⟩ := hd.at I1.hok
  obtain ⟨o, des, ep, q1, q2, q3, q4, q5, q6⟩ := dd
  have raw : s1.heap.DictRaw d des ep := ⟨o, q1, q2, q3⟩
  have lx : es.length = xs.length := Paired.length rel
  rw [List.length_map] at hz
  have ld : des.size = xs.length := by rw [← Array.length_toList, q4, List.length_map]
  have I2 : Inv X pins σ H1 { s1 with heap := s1.heap.push { cls := .type "dict_items", data := .fields #[.ref d] } } := I1.kept (t' := s1.toks) fun b ob q => Heap.get?_push_of_some _ q
  refine ⟨⟨o, q1, q2.1⟩, fun b eb => ?_, ?_⟩
  · cases eb
    exact ⟨o, q1, q2.2.1⟩
  show wpAny _ _ (callWith cpos (.builtin "dict.items") [.ref d] [] []) _ X.xe s1
  refine method_meetsIn F.slot_dict_items F.entry_dict_items rfl (PySem.evalArgs_none ⟨rfl, ⟨o, q1, q2.1⟩, F.args_dict_items_1 _, _, PySem.meets_dict_items_raw d hs0, ⟨_, _, raw⟩, ?_⟩)
  refine Calls.spliced_nil ?_
  refine PySem.W.dil_call (I1.ok.hd hc) ⟨_, Heap.get?_push_size _ rfl, rfl, rfl⟩ (raw.push _) (by omega) fun h' tk acc c as hk hS hl hG hacc => ?_
  have kv : Paired (fun (p : V × V) (e : DictEntry) => RelV p.1 e.key ∧ RelV p.2 e.val) (es.map fun e => (V.ref e.2.1, e.2.2)) des.toList := by
    rw [q4]
    exact kvN rel
  obtain ⟨H', k1, k2, k3, k4, k5, k6, J⟩ := items_laidV (tk := tk) I2 (by rw [List.length_map]; omega) kv hk hS hl hG hacc
  have k6' : Paired (fun (t : Addr) (e : NestedKey × Addr × V) => H' t = some (.tup [.ref e.2.1, e.2.2])) as es := pairMap (R := fun (t : Addr) (q : V × V) => H' t = some (.tup [q.1, q.2])) (f := fun e : NestedKey × Addr × V => (V.ref e.2.1, e.2.2)) k6
  have nk : (es.map (·.1)).Nodup := by
    have e : ∀ {es : List (NestedKey × Addr × V)} {xs : List (NestedKey × Addr × Value)}, Paired (fun p q => p.1 = q.1 ∧ p.2.1 = q.2.1 ∧ RelV p.2.2 q.2.2) es xs → es.map (·.1) = xs.map (·.1) := fun r => by
      induction r with
      | nil => rfl
      | cons h _ ih => rw [List.map_cons, List.map_cons, h.1, ih]
    rw [e rel]
    exact q6
  exact ⟨.ref _, H', J, rfl, q H' _ as es k1 k2 k5 k6' hn nk rfl⟩
end
end Rs

set_option Elab.async false
set_option linter.all false
set_option maxRecDepth 100000
set_option maxHeartbeats 4000000
/-! range(n) as a value; x not in a range; readings of isinstance -/
namespace Rs
open PySem L2 PySem.Spec PyProof.Rows
def rRange1 : List V → Hp → VK → Prop := fun vs H Q => ∃ j, vs = [V.int j] ∧ ∀ p, H p = none → Q (.ref p) (upd H p (.rng 0 j))
def rNotRng : R2 := fun x y H Q => ∃ i a lo hi, x = V.int i ∧ y = V.ref a ∧ H a = some (.rng lo hi) ∧ Q (.bl (!decide (lo ≤ i ∧ i < hi))) H
section
variable {X : Cx}
theorem cr_range1 : CallR X (.type "range") rRange1 := by
  intro pins s σ H vs us Q I r h
  obtain ⟨j, rfl, q⟩ := h
  obtain ⟨u, rfl, ri⟩ := vals1 r
  obtain ⟨t, rfl⟩ := ri
  refine call_range_1 ⟨.ref s.heap.objs.size, upd H s.heap.objs.size (.rng 0 j), I.laid (t' := s.toks + 2) (fun b o e => Heap.get?_push_of_some _ e) (Nat.le_refl _) ?_, rfl, q _ (I.hok.fresh (Nat.le_refl _))⟩
  exact ⟨_, _, _, Heap.get?_push_size _ rfl⟩
theorem op_notin_rng : OpR X (compareOp .NotIn) rNotRng := by
  intro pins s σ H x y v u Q I rx ry h
  obtain ⟨i, a, lo, hi, rfl, rfl, ha, q⟩ := h
  obtain ⟨k, rfl⟩ := rx
  obtain rfl : u = Value.ref a := ry
  obtain ⟨t1, t2, t3, ho⟩ := I.hok a _ ha
  show wpAny _ _ (do return Value.bool (!(← contains (Value.ref a) (Value.int i k)))) _ _ s
  refine wpAny_bind (wpAny_contains_slot (T := "range") ⟨_, ho, rfl⟩ F.slot_range_contains (call_meets F.slot_range_contains ⟨_, ho, rfl⟩ F.entry_range_contains (F.args_range_contains_2 _ _) (q_contains a lo hi i t1 t2 t3 k)
    ⟨ho, wpAny_truthy_bool (wpAny_pure ⟨.bl _, H, I, rfl, ?_⟩)⟩))
  rw [place1]
  exact q
end
section
variable {H : Hp} {K : PySem.W.Frag} {Q : VK} {p : Addr} {xs : List V}
theorem w_range1 {j : Int} (k : ∀ p, H p = none → Q (.ref p) (upd H p (.rng 0 j))) : rRange1 [.int j] H Q := ⟨j, rfl, k⟩
theorem w_notrng {i lo hi : Int} {a : Addr} (ha : H a = some (.rng lo hi)) (k : Q (.bl (!decide (lo ≤ i ∧ i < hi))) H) : rNotRng (.int i) (.ref a) H Q := ⟨i, a, lo, hi, rfl, rfl, ha, k⟩
theorem w_isi {x : V} {t T : String} {b : Bool} (hx : TyX K H x (.type t)) (hb : kitB t T = some b) (k : Q (.bl b) H) : rIsi K [x, .ty T] H Q := ⟨x, .ty T, _, _, b, rfl, .ty T, hx, kit_ty hb, k⟩
theorem w_isiTup {T : String} {b : Bool} (hp : H p = some (.tup xs)) (hb : kitB "tuple" T = some b) (k : Q (.bl b) H) : rIsi K [.ref p, .ty T] H Q := w_isi (.base (.tup hp)) hb k
theorem w_isiInt {T : String} {b : Bool} {i : Int} (hb : kitB "int" T = some b) (k : Q (.bl b) H) : rIsi K [.int i, .ty T] H Q := w_isi (.base (.int i)) hb k
theorem w_glob {σ : L2.St} {v : V} (k : Q v H) : tC v σ H Q := k
end
end Rs

set_option Elab.async false
set_option linter.all false
set_option maxRecDepth 100000
set_option maxHeartbeats 4000000
/-! _law_is_recipe_to -/
namespace Rs
open PySem L2 PySem.Spec PyProof.Rows
local macro_rules | `(tactic| walk_at "rs ne") => `(tactic| first | assumption | (apply Ne.symm; assumption) | (apply ne_n1; assumption; walk_at "rs hp") | (apply ne_n2; assumption; walk_at "rs hp"))
local macro_rules | `(tactic| walk_at "rs hp") => `(tactic| first | assumption | exact upd_same | (apply hp_ne; (walk_at "rs ne"); (walk_at "rs hp")))
local macro_rules | `(tactic| walk_at "rs sq") => `(tactic| first | assumption | (apply SqL.of; walk_at "rs hp") | (apply SqT.of; walk_at "rs hp"))
local macro_rules | `(tactic| walk_at "rs sz") => `(tactic| first | decide | (rw [sizeLine_eq]; simp; done) | (rw [sizeLine_eq]; simp; omega) | (rw [sizeLine_eq]; omega))
local macro_rules | `(tactic| walk_at "rs ar") => `(tactic| first | assumption | (show (0 : Int) < _; first | assumption | decide | omega) | exact Or.inr ⟨by decide, by decide⟩ | exact Or.inl ⟨by decide, by decide⟩ | exact Or.inl ⟨by omega, by omega⟩ | exact Or.inr ⟨by omega, by omega⟩ | exact ⟨by decide, by decide, by decide⟩ | exact ⟨by decide, by decide⟩ | exact ⟨by omega, by omega⟩)
local macro_rules | `(tactic| walk_at "rs r1") => `(tactic| with_reducible (first | refine w_var rfl ?_ | refine w_c ?_ | refine w_op ?_ | refine w_un ?_ | refine w_test ?_ | refine w_B ?_ | refine w_bool ?_ | refine w_not ?_ | refine w_cb ?_ | refine w_nil ?_ | refine w_cons ?_ | refine w_asg ?_ | refine w_name ?_ | refine w_seq ?_ | refine w_ret ?_ | refine w_drop ?_ | refine w_next ?_ | refine w_ifS ?_ | refine w_I0 ?_ | refine w_eqI ?_ | refine w_neI ?_ | refine w_int ?_ | refine w_abs ?_ | refine w_sl ?_ | refine w_part ?_ | refine w_intO ?_ | refine w_nopart ?_ | refine w_gsub ?_ | refine w_augS ?_ | refine w_ip ?_ | refine w_lst ?_ | refine w_tup ?_ | refine w_if ?_ | refine w_and ?_ | refine w_or ?_ | refine w_tfld ?_ | refine w_forL ?_ | refine w_forT ?_ | refine w_forR1 ?_ | refine w_forR2 ?_ | refine w_forE ?_ | refine w_lcL ?_ | refine w_lcR1 ?_ | refine w_bm ?_ | refine w_call ?_ | refine w_meth ?_ | refine w_nget ?_ | refine w_nin ?_ | refine w_nput ?_ | refine w_eqS ?_ | refine w_neS ?_))
local macro_rules | `(tactic| walk_at "rs r2") => `(tactic| first | (walk_at "rs r1") | ((with_reducible refine' w_ixL ?h1 ?h2 ?h3); (case h1 => walk_at "rs sq"); (case h2 => first | rfl | exact atI_nat (j := 0) rfl | exact atI_nat (j := 1) rfl | exact atI_nat (j := 2) rfl)) | ((with_reducible refine' w_ixT ?h1 ?h2 ?h3); (case h1 => walk_at "rs sq"); (case h2 => first | rfl | exact atI_nat (j := 0) rfl | exact atI_nat (j := 1) rfl | exact atI_nat (j := 2) rfl)) | ((with_reducible refine' w_cutL ?h1 ?_); (case h1 => walk_at "rs sq"); intro q hq) | ((with_reducible refine' w_cat ?h1 ?h2 ?h3 ?_); (case h1 => walk_at "rs hp"); (case h2 => walk_at "rs hp"); (case h3 => walk_at "rs sz"); intro q hq) | ((with_reducible refine' w_small ?h1 ?_); (case h1 => exact Nat.le_of_ble_eq_true rfl); intro q hq) | ((with_reducible refine' w_setL ?h1 ?h2 ?_); (case h1 => walk_at "rs hp"); (case h2 => rfl)) | ((with_reducible refine' w_getL ?h0 ?h1 ?h2 ?_); (case h0 => rfl); (case h1 => walk_at "rs sq"); (case h2 => rfl)) | ((with_reducible refine' w_lenL ?h1 ?_); (case h1 => walk_at "rs sq")) | ((with_reducible refine' w_lenT ?h1 ?_); (case h1 => walk_at "rs sq")) | ((with_reducible refine' w_fld ?h1 ?h2 ?h3 ?h4 ?_); (case h1 => assumption); (case h2 => assumption); (case h3 => walk_at "rs hp"); (case h4 => assumption)) | ((with_reducible refine' w_methAt ?h1 ?h2 ?_); (case h1 => walk_at "rs hp"); (case h2 => assumption)) | ((with_reducible refine' w_tyL ?h1 ?_); (case h1 => walk_at "rs sq")) | ((with_reducible refine' w_append ?h1 ?h2 ?_); (case h1 => walk_at "rs hp"); (case h2 => assumption)) | ((with_reducible refine' w_I ?h1 ?_); (case h1 => walk_at "rs ar")))
local macro_rules | `(tactic| walk_at "rs rd") => `(tactic| repeat (walk_at "rs r2"))
theorem w_ifT {c : Bool} {A B : Prop} (h : c = true) (k : A) : if c = true then A else B := by rw [if_pos h]; exact k
theorem w_ifF {c : Bool} {A B : Prop} (h : c = false) (k : B) : if c = true then A else B := by rw [if_neg (by rw [h]; exact Bool.false_ne_true)]; exact k
local macro_rules | `(tactic| walk_at "rs r3") => `(tactic| first | (walk_at "rs r2") | ((with_reducible refine' w_isiTup ?h1 ?h2 ?_); (case h1 => walk_at "rs hp"); (case h2 => rfl)) | ((with_reducible refine' w_isiInt ?h2 ?_); (case h2 => rfl)) | ((with_reducible refine w_range1 ?_); intro q hq) | ((with_reducible refine' w_notrng ?h1 ?_); (case h1 => walk_at "rs hp")) | ((with_reducible refine' w_ifT ?h1 ?_); (case h1 => first | with_reducible rfl | decide | rfl)) | ((with_reducible refine' w_ifF ?h1 ?_); (case h1 => first | with_reducible rfl | decide | rfl)))
local macro_rules | `(tactic| walk_at "rs rx") => `(tactic| repeat (walk_at "rs r3"))
abbrev sTo : Stmt := top 20
structure Txt6 (mg : Str → Option Value) : Prop where
  isi : mg "isinstance" = none
  tuple : mg "tuple" = none
  bool : mg "bool" = none
  len : mg "len" = none
  range : mg "range" = none
  dict : mg "dict" = none
  list : mg "list" = none
theorem hu64 {A : Around} {k : Nat} (hr : Room k A) : A.units + 64 < cLine := by
  have := hr.un
  omega
theorem call_isiK1 {X : Cx} {K : PySem.W.Frag} (h : X.K = K) : CallR X (.builtin "isinstance") (rIsi K) := by
  subst h
  exact call_isi
theorem pairSq {K : PySem.W.Frag} {H : Hp} : ∀ {ts : List Addr} {es : List (NestedKey × Addr × V)}, Paired (fun (t : Addr) (e : NestedKey × Addr × V) => H t = some (.tup [.ref e.2.1, e.2.2])) ts es → Paired (fun (t : Addr) (e : NestedKey × Addr × V) => SqT K H t [.ref e.2.1, e.2.2]) ts es
  | _, _, .nil => .nil
  | _, _, .cons h t => .cons (SqT.of h) (pairSq t)
/-- a recipe that recipe_of tells makes its node -/
def spTo (P : Program) (w : World) (K : PySem.W.Frag) : Sp := fun vs H Q _ => ∃ (rv : V) (sp sn tp : Addr) (L : List NestedKey) (kvs : List (NestedKey × V)) (seen : List Int) (W : List Nat) (st : List NestedKey) (node : Nat), vs = [rv, .ref sp, .ref sn, .ref tp, .int (node : Int)] ∧
  ND P w H sp kvs ∧ kvs.length ≤ 4000 ∧ (∀ (i : Nat) k, L[i]? = some k → valV kvs k = some (.int (i : Int)) ∧ k.depth ≤ 8) ∧ H sn = some (.tup (seen.map V.int)) ∧ NK H (.tup st) (.ref tp) ∧ W.getLast? = some node ∧ W.length ≤ 4000 ∧ StepsOk L seen W st ∧ (∀ i ∈ W, i < L.length) ∧
  SeqAt.shaped (.tuple (toPys st)) = true ∧ (∀ (i : Nat) (o : Str) (ns : List Int), L[i]? = some (NestedKey.tup [.text "op", .text o, .tup (ns.map .num)]) → ns.length ≤ 100000) ∧ ∀ H', Fm [] H H' → Q (.bl true) H'
section
variable {P : Program} {w : World} {K : PySem.W.Frag} {mg : Str → Option Value} {base : Heap}
theorem scTo : FnScope ["rows", "spots", "seen", "thing", "node", "found", "step", "part", "row"] ["rows", "spots", "seen", "thing", "node"] (defScope sTo) := ⟨rfl, rfl, rfl, by decide +kernel, rfl, by decide +kernel, by decide +kernel⟩
theorem ok_to {f : Addr} {fd : FuncData} (F : Fun K "_law_is_recipe_to" "_law_is_recipe_to" sTo f fd) (T6 : Txt6 mg) : FnOk P w K mg base CX0 1 f fd ["rows", "spots", "seen", "thing", "node"] (spTo P w K) := by
  refine F.ok scTo (fun vs H Q E h => ?_) (fun cdv A outer s H vs Q E hr h => ?_)
  · obtain ⟨rv, sp, sn, tp, L, kvs, seen, W, st, node, rfl, _⟩ := h
    rfl
  · obtain ⟨rv, sp, sn, tp, L, kvs, seen, W, st, node, rfl, hsp, hkl, hkv, hsn, hst, hla, hWl, hok, hWL, hsh, hnl, k⟩ := h
    have nd := scTo.nd
    have hu1 := hu_of hr
    refine ⟨_, (pss_cons (ps_if (PW.pt (pw_or (pt_not (pt_val (pe_callB call_isi (by rfl) T6.isi (by decide +kernel) (pa_cons (pv 3) (pa_cons (pe_bltn (v := .ty "tuple") (by rfl) T6.tuple (by decide +kernel) rfl) pa_nil))))) (pw_or1 (pt_cmpR (op_eqD hr.units) (pv 3) (pe_tup pa_nil) (nomark _))))) (pss_one (ps_ret pe_bl)) pss_nil) (pss_cons (ps_asg (pe_tup (pa_cons (pe_lst pa_nil) (pa_cons (pe_callTy (call_dictN rfl (hu64 hr)) (by rfl) T6.dict (by decide +kernel) (pa_cons (pe_nitems rfl (pv 1) (by rfl) T6.list (by decide +kernel)) pa_nil)) pa_nil))) (pg_tup rfl (pgs_cons (pg_name (i := 5) nd rfl (Or.inr rfl)) (pgs_cons (pg_name (i := 1) nd rfl (Or.inl rfl)) pgs_nil)))) (Evl.pss_cut (ps_for PassesOwn.never rfl (pi_tup (pv 3)) (pg_name (i := 6) nd rfl (Or.inl rfl)) (pss_cons (ps_if (PW.pt (pw_or (pt_not (pt_val (pe_callB call_isi (by rfl) T6.isi (by decide +kernel) (pa_cons (pv 6) (pa_cons (pe_bltn (v := .ty "tuple") (by rfl) T6.tuple (by decide +kernel) rfl) pa_nil))))) (pw_or1 (pt_cmpR op_notIn_seq (pe_callB c_len (by rfl) T6.len PySem.boot_len (pa_cons (pv 6) pa_nil)) (pe_tup (pa_cons pe_int (pa_cons pe_int pa_nil))) rfl)))) (pss_one (ps_ret pe_bl)) pss_nil) (pss_one (ps_if (pt_cmpR op_eq (pe_ix ix_tup (pv 6) pe_int (fun _ _ => rfl)) pe_str (nomark _)) (pss_cons (ps_if (PW.pt (pw_or (pt_cmpR op_ne (pe_callB c_len (by rfl) T6.len PySem.boot_len (pa_cons (pv 6) pa_nil)) pe_int (nomark _)) (pw_or (pt_val (pe_callB call_isi (by rfl) T6.isi (by decide +kernel) (pa_cons (pe_ix ix_tup (pv 6) pe_int (fun _ _ => rfl)) (pa_cons (pe_bltn (v := .ty "bool") (by rfl) T6.bool (by decide +kernel) rfl) pa_nil)))) (pw_or1 (pt_cmpR op_notin_rng (pe_ix ix_tup (pv 6) pe_int (fun _ _ => rfl)) (pe_callTy cr_range1 (by rfl) T6.range (by decide +kernel) (pa_cons (pe_callB c_len (by rfl) T6.len PySem.boot_len (pa_cons (pv 2) pa_nil)) pa_nil)) rfl))))) (pss_one (ps_ret pe_bl)) pss_nil) (pss_one (ps_expr (pe_bm PySem.F.plainAttrs_list PySem.F.slot_list_append PySem.F.type_list_append mt_append (pv 5) (pa_cons (pe_ix ix_tup (pv 2) (pe_ix ix_tup (pv 6) pe_int (fun _ _ => rfl)) (fun _ _ => rfl)) pa_nil))))) (pss_cons (ps_if (PW.pt (pw_or (pt_cmpR op_ne (pe_ix ix_tup (pv 6) pe_int (fun _ _ => rfl)) pe_str (nomark _)) (pw_or (pt_cmpR op_ne (pe_callB c_len (by rfl) T6.len PySem.boot_len (pa_cons (pv 6) pa_nil)) pe_int (nomark _)) (pw_or1 (pt_not (pt_val (pe_callB call_isi (by rfl) T6.isi (by decide +kernel) (pa_cons (pe_ix ix_tup (pv 6) pe_int (fun _ _ => rfl)) (pa_cons (pe_bltn (v := .ty "tuple") (by rfl) T6.tuple (by decide +kernel) rfl) pa_nil))))))))) (pss_one (ps_ret pe_bl)) pss_nil) (pss_cons (ps_if (pt_cmpR (op_neD hr.units) (pe_lc (own := [("part", 7)]) (g := gName 7) (tt := (tOr (tB (tCB (rIsi K) (tCons (tVar 7) (tCons (tC (.ty "bool")) tNil)))) (tTest (tOp rNotRng (tVar 7) (tCB rRange1 (tCons (tCB (rLenX K) (tCons (tVar 5) tNil)) tNil)))))) rfl nd (pi_tup (pe_ix ix_tup (pv 6) pe_int (fun _ _ => rfl))) (blkOk_by (N := ["rows", "spots", "seen", "thing", "node", "found", "step", "part", "row"]) (sc := defScope sTo) (by decide +kernel)) (fun _ _ _ _ _ => pg_name (i := 7) nd rfl (Or.inl rfl)) (fun _ _ _ _ _ => pts_one (PW.pt (pw_or (pt_val (pe_callB (call_isiK1 (K := K) rfl) (by rfl) T6.isi (by decide +kernel) (pa_cons (pv 7) (pa_cons (pe_bltn (v := .ty "bool") (by rfl) T6.bool (by decide +kernel) rfl) pa_nil)))) (pw_or1 (pt_cmpR op_notin_rng (pv 7) (pe_callTy cr_range1 (by rfl) T6.range (by decide +kernel) (pa_cons (pe_callB (c_lenK (K := K) rfl) (by rfl) T6.len PySem.boot_len (pa_cons (pv 5) pa_nil)) pa_nil)) rfl))))) (fun _ _ _ _ _ => (pv 7))) (pe_lst pa_nil) (nomark _)) (pss_one (ps_ret pe_bl)) pss_nil) (pss_cons (ps_set (i := 8) nd rfl (Or.inl rfl) (pe_tup (pa_cons pe_str (pa_cons (pe_ix ix_tup (pv 6) pe_int (fun _ _ => rfl)) (pa_cons (pe_callTy call_tuple_of (by rfl) T6.tuple (by decide +kernel) (pa_cons (pe_lc (own := [("part", 7)]) (g := gName 7) (tt := tYes) rfl nd (pi_tup (pe_ix ix_tup (pv 6) pe_int (fun _ _ => rfl))) (blkOk_by (N := ["rows", "spots", "seen", "thing", "node", "found", "step", "part", "row"]) (sc := defScope sTo) (by decide +kernel)) (fun _ _ _ _ _ => pg_name (i := 7) nd rfl (Or.inl rfl)) (fun _ _ _ _ _ => pts_nil) (fun _ _ _ _ _ => (pe_ix (ix_listK (K := K) rfl) (pv 5) (pv 7) (fun _ _ => rfl)))) pa_nil)) pa_nil))))) (pss_one (ps_expr (pe_bm PySem.F.plainAttrs_list PySem.F.slot_list_append PySem.F.type_list_append mt_append (pv 5) (pa_cons (pe_nsetd (hu64 hr) (pv 1) (pv 8) (pe_callB call_lenN (by rfl) T6.len PySem.boot_len (pa_cons (pv 1) pa_nil)) ⟨rfl, rfl, rfl, rfl⟩) pa_nil))))))))))) (pss_one (ps_ret (pe_cmpR op_eq (pe_ix ix_list (pv 5) (pe_un un_neg pe_int) (fun _ _ => rfl)) (pv 4) (nomark _))))))), ?_⟩
    have hlen : st.length = W.length := hok.1
    have hns : ∀ ns : List Int, (∃ (o : Str) (h : Nat), L[h]? = some (NestedKey.tup [.text "op", .text o, .tup (ns.map .num)])) → ns.length ≤ 100000 := fun ns ⟨o, h, e⟩ => hnl h o ns e
    have hst0 := hst
    cases hst with
    | tup etp rst =>
      rename_i sts
      have hsl := rst.len
      have hne : st ≠ [] := fun z => by
        rw [z] at hlen
        rw [List.length_eq_zero_iff.mp hlen.symm] at hla
        cases hla
      walk_at "rs rx"
      rename_i q0 hq0
      have f0 : Fm [] H (upd H q0 (.tup [])) := Fm.new hq0
      refine ⟨.tuple (toPys st), .tuple [], NK.dp _ _ (NK.mono (fun a xs e => f0 _ _ e List.not_mem_nil) _ _ hst0), .tup (SqT.of upd_same) .nil, hsh, by decide +kernel, ?_⟩
      rw [show PyData.eqv (.tuple (toPys st)) (.tuple []) = false by cases st with | nil => exact absurd rfl hne | cons a r => rfl]
      generalize upd H q0 (.tup []) = H0 at f0 ⊢
      clear hq0
      walk_at "rs rx"
      rename_i fl hfl
      have f1 : Fm [] H (upd H0 fl (.lst [])) := f0.thenNew hfl
      have e1 : upd H0 fl (.lst []) fl = some (.lst []) := upd_same
      have hfl0 : H fl = none := f0.none hfl List.not_mem_nil
      generalize upd H0 fl (.lst []) = H1 at f1 e1 ⊢
      clear hfl f0
      have tupF : ∀ {A : Hp}, Fm [] H A → ∀ b xs, H b = some (.tup xs) → A b = some (.tup xs) := fun f b xs e => f _ _ e List.not_mem_nil
      have spF : ∀ {A : Hp}, Fm [] H A → ND P w A sp kvs := fun f => hsp.frame (fun o e => f _ _ e List.not_mem_nil) (tupF f)
      refine w_itemsN (w_var rfl ⟨sp, kvs, rfl, spF f1, fun H2 p ts es kp hp ep pe hes hnd ek => ?_⟩)
      have f2 : Fm [] H H2 := fun a o e n => kp _ _ (f1 a o e n)
      have e2 := kp _ _ e1
      walk_at "rs rx"
      refine ⟨p, ts, es, rfl, SqL.of ep, pairSq pe, fun e he => ⟨NK.mono (fun b xs z => kp _ _ z) _ _ (hes e he).1, (hes e he).2⟩, hnd, fun sp2 H3 hsp2 nd3 sm3 => ?_⟩
      rw [← ek] at nd3
      have f3 : Fm [] H H3 := fun a o e n => by
        have z := f2 a o e n
        rw [sm3 a (ne_of_none z hsp2)]
        exact z
      have e3 : H3 fl = some (.lst []) := by
        rw [sm3 fl (ne_of_none e2 hsp2)]
        exact e2
      have hsp20 : H sp2 = none := f2.none hsp2 List.not_mem_nil
      have hfs : fl ≠ sp2 := ne_of_none e2 hsp2
      clear kp hp ep pe hes hnd ek f2 e2 hsp2 sm3
      walk_at "rs rx"
      rename_i q1 hq1
      have f4 : Fm [] H (upd H3 q1 (.tup [.ref fl, .ref sp2])) := f3.thenNew hq1
      have g4 : Fm [] H3 (upd H3 q1 (.tup [.ref fl, .ref sp2])) := Fm.new hq1
      have e4 := g4 _ _ e3 List.not_mem_nil
      have nd4 : ND P w (upd H3 q1 (.tup [.ref fl, .ref sp2])) sp2 kvs := ND.frame nd3 (fun o e => g4 _ _ e List.not_mem_nil) (fun b xs e => g4 _ _ e List.not_mem_nil)
      refine ⟨q1, _, rfl, SqT.of upd_same, rfl, _, _, rfl, w_name ⟨_, _, rfl, w_name ⟨rfl, ?_⟩⟩⟩
      generalize upd H3 q1 (.tup [.ref fl, .ref sp2]) = H4 at f4 e4 nd4 ⊢
      clear hq1 g4 f3 e3 nd3
      refine w_cut (M := fun σ H' => ∃ o6 o8, σ = [some rv, some (.ref sp2), some (.ref sn), some (.ref tp), some (.int (node : Int)), some (.ref fl), o6, none, o8] ∧ H' fl = some (.lst (W.map fun i : Nat => V.int (i : Int))) ∧ Fm [] H H') ?_ ?_
      · walk_at "rs rx"
        refine ⟨tp, rfl, ⟨_, SqT.of (tupF f4 _ _ etp)⟩, for_it (walk_tup (xs := sts)) (fun j σ H' => ∃ o6 o8, σ = [some rv, some (.ref sp2), some (.ref sn), some (.ref tp), some (.int (node : Int)), some (.ref fl), o6, none, o8] ∧ H' fl = some (.lst ((W.take j).map fun i : Nat => V.int (i : Int))) ∧ ND P w H' sp2 kvs ∧ Fm [] H H')
          ⟨_, _, rfl, e4, nd4, f4⟩ (fun j σ H' _ ⟨_, _, _, _, _, f⟩ => SqT.of (tupF f _ _ etp)) ?_ (fun σ H' ⟨o6, o8, e, e', _, f⟩ => ⟨o6, o8, e, by rw [← hsl, hlen, List.take_length] at e'; exact e', f⟩)⟩
        rintro j x σ H5 H6 hj ⟨o6, o8, rfl, e5, nd5, f5⟩ ⟨rfl, hx⟩
        have hjW : j < W.length := by omega
        obtain ⟨h, hh⟩ : ∃ h, W[j]? = some h := ⟨W[j], List.getElem?_eq_getElem hjW⟩
        obtain ⟨k0, hk0⟩ : ∃ k0, st[j]? = some k0 := ⟨st[j]'(by omega), List.getElem?_eq_getElem (by omega)⟩
        obtain ⟨v0, hv0, nk0⟩ := rst.get hk0
        rw [hx] at hv0
        cases hv0
        have hWj : (W.take j).length = j := by rw [List.length_take]; omega
        have hhL := hWL h (List.mem_of_getElem? hh)
        have wtk : W.take (j + 1) = W.take j ++ [h] := by rw [List.take_succ, hh]; rfl
        have done : ∀ {H7 : Hp} {o8' : Option V} {o6' : Option V}, H7 fl = some (.lst ((W.take j).map fun i : Nat => V.int (i : Int))) → ND P w H7 sp2 kvs → Fm [] H H7 → ∃ o6'' o8'', [some rv, some (.ref sp2), some (.ref sn), some (.ref tp), some (.int (node : Int)), some (.ref fl), o6', none, o8'] = [some rv, some (.ref sp2), some (.ref sn), some (.ref tp), some (.int (node : Int)), some (.ref fl), o6'', none, o8''] ∧
            upd H7 fl (.lst ((W.take j).map (fun i : Nat => V.int (i : Int)) ++ [.int (h : Int)])) fl = some (.lst ((W.take (j + 1)).map fun i : Nat => V.int (i : Int))) ∧ ND P w (upd H7 fl (.lst ((W.take j).map (fun i : Nat => V.int (i : Int)) ++ [.int (h : Int)]))) sp2 kvs ∧ Fm [] H (upd H7 fl (.lst ((W.take j).map (fun i : Nat => V.int (i : Int)) ++ [.int (h : Int)]))) := fun {H7 o8' o6'} a b c => by
          refine ⟨_, _, rfl, by rw [upd_same, wtk, List.map_append]; rfl, ND.frame b (fun o e => by rw [upd_ne hfs.symm]; exact e) (fun b xs e => by rw [upd_ne (fun z => by rw [z, a] at e; cases e)]; exact e), c.thenOwn hfl0⟩
        rcases hok.2 j h k0 hh hk0 with ⟨m, hm, rfl⟩ | ⟨o, ns, idx, hL, rfl, hil, hidx⟩
        · cases nk0 with
          | tup er rr =>
            cases rr with
            | cons r1 r2 =>
              cases r1
              cases r2 with
              | cons r2 r3 =>
                cases r2
                cases r3
                rename_i r0
                have er5 := tupF f5 _ _ er
                have sn5 := tupF f5 _ _ hsn
                have hml := (List.getElem?_eq_some_iff.mp hm).1
                walk_at "rs rx"
                rename_i q2 hq2
                refine ⟨_, _, rfl, .inr (SqT.of upd_same), rfl, rfl, _, rfl, w_ifF rfl ?_⟩
                have f6 : Fm [] H (upd H6 q2 (.tup [.int 2, .int 3])) := f5.thenNew hq2
                have g6 : Fm [] H6 (upd H6 q2 (.tup [.int 2, .int 3])) := Fm.new hq2
                have e6 := g6 _ _ e5 List.not_mem_nil
                have nd6 : ND P w (upd H6 q2 (.tup [.int 2, .int 3])) sp2 kvs := ND.frame nd5 (fun o e => g6 _ _ e List.not_mem_nil) (fun b xs e => g6 _ _ e List.not_mem_nil)
                have er6 := g6 _ _ er5 List.not_mem_nil
                have sn6 := g6 _ _ sn5 List.not_mem_nil
                generalize upd H6 q2 (.tup [.int 2, .int 3]) = H7 at f6 e6 nd6 er6 sn6 ⊢
                clear hq2 g6
                walk_at "rs rx"
                rename_i q3 hq3
                refine w_ifF (show (!decide (0 ≤ (m : Int) ∧ (m : Int) < ((seen.map V.int).length : Int))) = false by rw [List.length_map, decide_eq_true (by omega)]; rfl) ?_
                have f8 : Fm [] H (upd H7 q3 (.rng 0 ((seen.map V.int).length : Int))) := f6.thenNew hq3
                have g8 : Fm [] H7 (upd H7 q3 (.rng 0 ((seen.map V.int).length : Int))) := Fm.new hq3
                have e8 := g8 _ _ e6 List.not_mem_nil
                have nd8 : ND P w (upd H7 q3 (.rng 0 ((seen.map V.int).length : Int))) sp2 kvs := ND.frame nd6 (fun o e => g8 _ _ e List.not_mem_nil) (fun b xs e => g8 _ _ e List.not_mem_nil)
                have er8 := g8 _ _ er6 List.not_mem_nil
                have sn8 := g8 _ _ sn6 List.not_mem_nil
                generalize upd H7 q3 (.rng 0 ((seen.map V.int).length : Int)) = H8 at f8 e8 nd8 er8 sn8 ⊢
                clear hq3 g8
                walk_at "rs rx"
                refine w_ixT (SqT.of sn8) (atI_nat (by rw [List.getElem?_map, hm]; rfl)) ?_
                walk_at "rs rx"
                refine w_append e8 (by rw [List.length_map, sizeLine_eq]; omega) ?_
                exact done (o6' := some (.ref r0)) e8 nd8 f8
        · cases nk0 with
          | tup er rr =>
            cases rr with
            | cons r1 r2 =>
              cases r1
              cases r2 with
              | cons r2 r3 =>
                cases r2
                cases r3 with
                | cons r3 r4 =>
                  cases r4
                  cases r3 with
                  | tup ep rpp =>
                    have er5 := tupF f5 _ _ er
                    have sn5 := tupF f5 _ _ hsn
                    have ep5 := tupF f5 _ _ ep
                    walk_at "rs rx"
                    rename_i q2 hq2
                    refine ⟨_, _, rfl, .inr (SqT.of upd_same), rfl, rfl, _, rfl, w_ifF rfl ?_⟩
                    have f6 : Fm [] H (upd H6 q2 (.tup [.int 2, .int 3])) := f5.thenNew hq2
                    have g6 : Fm [] H6 (upd H6 q2 (.tup [.int 2, .int 3])) := Fm.new hq2
                    have e6 := g6 _ _ e5 List.not_mem_nil
                    have nd6 : ND P w (upd H6 q2 (.tup [.int 2, .int 3])) sp2 kvs := ND.frame nd5 (fun o e => g6 _ _ e List.not_mem_nil) (fun b xs e => g6 _ _ e List.not_mem_nil)
                    have er6 := g6 _ _ er5 List.not_mem_nil
                    have ep6 := g6 _ _ ep5 List.not_mem_nil
                    generalize upd H6 q2 (.tup [.int 2, .int 3]) = H7 at f6 e6 nd6 er6 ep6 ⊢
                    clear hq2 g6
                    have ex := nums_vals (ns := idx.map fun i : Nat => (i : Int)) (by rw [List.map_map]; exact rpp)
                    rw [List.map_map] at ex
                    subst ex
                    walk_at "rs rx"
                    refine w_lcT ?_
                    walk_at "rs rx"
                    refine ⟨_, rfl, ⟨_, SqT.of ep6⟩, fun D hD => ?_⟩
                    have hlf : fl ≠ D := ne_of_none e6 hD
                    refine lc_it (walk_tup (xs := idx.map (V.int ∘ fun i : Nat => (i : Int)))) (fun t H' => H' D = some (.lst []) ∧ H' fl = some (.lst ((W.take j).map fun i : Nat => V.int (i : Int))) ∧ ND P w H' sp2 kvs ∧ Fm [] H7 H')
                      ⟨upd_same, (Fm.new hD : Fm [] H7 _) _ _ e6 List.not_mem_nil, ND.frame nd6 (fun o e => (Fm.new hD : Fm [] H7 _) _ _ e List.not_mem_nil) (fun b xs e => (Fm.new hD : Fm [] H7 _) _ _ e List.not_mem_nil), Fm.new hD⟩ (fun t H' _ ⟨_, _, _, f⟩ => SqT.of (f _ _ ep6 List.not_mem_nil)) ?_ ?_
                    · rintro t x H9 H10 ht ⟨eD, e9, nd9, f9⟩ ⟨rfl, hx2⟩
                      rw [List.getElem?_map] at hx2
                      obtain ⟨i, hi, ex2⟩ := Option.map_eq_some_iff.mp hx2
                      have ex3 : x = V.int (i : Int) := ex2.symm
                      subst ex3
                      have hij := (hidx t i hi).1
                      refine w_name ⟨rfl, ?_⟩
                      show tOr _ _ _ _ _
                      walk_at "rs rx"
                      rename_i q3 hq3
                      refine w_ifF (show (!decide (0 ≤ (i : Int) ∧ (i : Int) < (((W.take j).map fun i : Nat => V.int (i : Int)).length : Int))) = false by rw [List.length_map, hWj, decide_eq_true (by omega)]; rfl) ?_
                      have g8 : Fm [] H10 (upd H10 q3 (.rng 0 (((W.take j).map fun i : Nat => V.int (i : Int)).length : Int))) := Fm.new hq3
                      exact ⟨g8 _ _ eD List.not_mem_nil, g8 _ _ e9 List.not_mem_nil, ND.frame nd9 (fun o e => g8 _ _ e List.not_mem_nil) (fun b xs e => g8 _ _ e List.not_mem_nil), f9.trans g8⟩
                    · rintro H9 ⟨eD, e9, nd9, f9⟩
                      walk_at "rs rx"
                      rename_i q3 hq3
                      have g8 : Fm [] H9 (upd H9 q3 (.lst [])) := Fm.new hq3
                      refine ⟨.list [], .list [], .lst (SqL.of (g8 _ _ eD List.not_mem_nil)) .nil, .lst (SqL.of upd_same) .nil, by decide +kernel, by decide +kernel, _, rfl, w_ifF rfl ?_⟩
                      have f10 : Fm [] H (upd H9 q3 (.lst [])) := (f6.trans f9).thenNew hq3
                      have e10 := g8 _ _ e9 List.not_mem_nil
                      have nd10 : ND P w (upd H9 q3 (.lst [])) sp2 kvs := ND.frame nd9 (fun o e => g8 _ _ e List.not_mem_nil) (fun b xs e => g8 _ _ e List.not_mem_nil)
                      have er10 := g8 _ _ (f9 _ _ er6 List.not_mem_nil) List.not_mem_nil
                      have ep10 := g8 _ _ (f9 _ _ ep6 List.not_mem_nil) List.not_mem_nil
                      generalize upd H9 q3 (.lst []) = H10 at f10 e10 nd10 er10 ep10 ⊢
                      clear hq3 g8 eD e9 nd9 f9 er6 ep6 e6 nd6 f6
                      walk_at "rs rx"
                      refine w_lcT ?_
                      walk_at "rs rx"
                      refine ⟨_, rfl, ⟨_, SqT.of ep10⟩, fun D2 hD2 => ?_⟩
                      have hD20 : H D2 = none := f10.none hD2 List.not_mem_nil
                      have hlf2 : fl ≠ D2 := ne_of_none e10 hD2
                      refine lc_it (walk_tup (xs := idx.map (V.int ∘ fun i : Nat => (i : Int)))) (fun t H' => H' D2 = some (.lst ((ns.take t).map V.int)) ∧ H' fl = some (.lst ((W.take j).map fun i : Nat => V.int (i : Int))) ∧ ND P w H' sp2 kvs ∧ Fm [] H10 H')
                        ⟨upd_same, (Fm.new hD2 : Fm [] H10 _) _ _ e10 List.not_mem_nil, ND.frame nd10 (fun o e => (Fm.new hD2 : Fm [] H10 _) _ _ e List.not_mem_nil) (fun b xs e => (Fm.new hD2 : Fm [] H10 _) _ _ e List.not_mem_nil), Fm.new hD2⟩ (fun t H' _ ⟨_, _, _, f⟩ => SqT.of (f _ _ ep10 List.not_mem_nil)) ?_ ?_
                      · rintro t x H11 H12 ht ⟨eD, e11, nd11, f11⟩ ⟨rfl, hx2⟩
                        rw [List.getElem?_map] at hx2
                        obtain ⟨i, hi, ex2⟩ := Option.map_eq_some_iff.mp hx2
                        have ex3 : x = V.int (i : Int) := ex2.symm
                        subst ex3
                        obtain ⟨hij, pp, hWp, hnp⟩ := hidx t i hi
                        have tk : ns.take (t + 1) = ns.take t ++ [(pp : Int)] := by rw [List.take_succ, hnp]; rfl
                        refine w_name ⟨rfl, w_yes ?_⟩
                        refine w_op (w_var rfl (w_var rfl (w_ixL (SqL.of e11) (atI_nat (by rw [List.getElem?_map, List.getElem?_take_of_lt hij, hWp]; rfl)) ?_)))
                        refine ⟨_, eD, ?_, by rw [upd_same, tk, List.map_append]; rfl, by rw [upd_ne hlf2]; exact e11, ND.frame nd11 (fun o e => ?_) (fun b xs e => ?_), f11.thenOwn hD2⟩
                        · have := (List.getElem?_eq_some_iff.mp hnp).1
                          have hsz : ns.length ≤ 100000 := hns ns ⟨o, h, hL⟩
                          rw [List.length_map, List.length_take, sizeLine_eq]
                          omega
                        · obtain ⟨es', z, _⟩ := nd11
                          rw [upd_ne (fun y => by rw [y, eD] at z; injection z with z; exact ndo_lst z.symm)]
                          exact e
                        · rw [upd_ne (fun z => by rw [z, eD] at e; cases e)]
                          exact e
                      · rintro H11 ⟨eD, e11, nd11, f11⟩
                        rw [List.length_map, hil, List.take_length] at eD
                        walk_at "rs rx"
                        refine ⟨D2, _, rfl, .inl ⟨SqL.of eD, fun t1 ht1 => ?_⟩⟩
                        walk_at "rs rx"
                        rename_i t2 ht2
                        have g12 : Fm [] H11 (upd (upd H11 t1 (.tup (ns.map V.int))) t2 (.tup [.str "op", .str o, .ref t1])) := (Fm.new ht1).thenNew ht2
                        have f12 := (f10.trans f11).trans g12
                        have e12 := g12 _ _ e11 List.not_mem_nil
                        have nd12 : ND P w (upd (upd H11 t1 (.tup (ns.map V.int))) t2 (.tup [.str "op", .str o, .ref t1])) sp2 kvs := ND.frame nd11 (fun o e => g12 _ _ e List.not_mem_nil) (fun b xs e => g12 _ _ e List.not_mem_nil)
                        have nk12 : NK (upd (upd H11 t1 (.tup (ns.map V.int))) t2 (.tup [.str "op", .str o, .ref t1])) (.tup [.text "op", .text o, .tup (ns.map .num)]) (.ref t2) := .tup upd_same (.cons (.text _) (.cons (.text _) (.cons (.tup (by walk_at "rs hp") (nums_of ns)) .nil)))
                        generalize upd (upd H11 t1 (.tup (ns.map V.int))) t2 (.tup [.str "op", .str o, .ref t1]) = H13 at f12 e12 nd12 nk12 ⊢
                        have kv1 := hkv h _ hL
                        refine ⟨_, rfl, sp2, kvs, rfl, nd12, _, rfl, _, rfl, sp2, kvs, rfl, nd12, t2, kvs, _, rfl, nd12, nk12, kv1.2, by rw [sizeLine_eq]; omega, fun v hv => ?_, fun hn => absurd (kv1.1.symm.trans hn) (fun z => nomatch z)⟩
                        rw [kv1.1] at hv
                        cases hv
                        refine w_nil (w_append e12 (by rw [List.length_map, sizeLine_eq]; omega) ?_)
                        exact done e12 nd12 f12
      · rintro σ H5 ⟨o6, o8, rfl, e5, f5⟩
        walk_at "rs rx"
        refine ⟨1, rfl, w_ixL (SqL.of e5) (v := .int (node : Int)) ?_ ?_⟩
        · obtain ⟨ys, hys⟩ := List.getLast?_eq_some_iff.mp hla
          rw [hys, List.map_append]
          exact atI_last _ _
        · walk_at "rs rx"
          rw [decide_eq_true rfl]
          exact k _ f5
end
end Rs

set_option Elab.async false
set_option linter.all false
set_option maxRecDepth 100000
set_option maxHeartbeats 4000000
/-! _law_are_told -/
namespace Rs
open PySem L2 PySem.Spec PyProof.Rows
local macro_rules | `(tactic| walk_at "rs ne") => `(tactic| first | assumption | (apply Ne.symm; assumption) | (apply ne_n1; assumption; walk_at "rs hp") | (apply ne_n2; assumption; walk_at "rs hp"))
local macro_rules | `(tactic| walk_at "rs hp") => `(tactic| first | assumption | exact upd_same | (apply hp_ne; (walk_at "rs ne"); (walk_at "rs hp")))
local macro_rules | `(tactic| walk_at "rs sq") => `(tactic| first | assumption | (apply SqL.of; walk_at "rs hp") | (apply SqT.of; walk_at "rs hp"))
local macro_rules | `(tactic| walk_at "rs sz") => `(tactic| first | decide | (rw [sizeLine_eq]; simp; done) | (rw [sizeLine_eq]; simp; omega) | (rw [sizeLine_eq]; omega))
local macro_rules | `(tactic| walk_at "rs ar") => `(tactic| first | assumption | (show (0 : Int) < _; first | assumption | decide | omega) | exact Or.inr ⟨by decide, by decide⟩ | exact Or.inl ⟨by decide, by decide⟩ | exact Or.inl ⟨by omega, by omega⟩ | exact Or.inr ⟨by omega, by omega⟩ | exact ⟨by decide, by decide, by decide⟩ | exact ⟨by decide, by decide⟩ | exact ⟨by omega, by omega⟩)
local macro_rules | `(tactic| walk_at "rs r1") => `(tactic| with_reducible (first | refine w_var rfl ?_ | refine w_c ?_ | refine w_op ?_ | refine w_un ?_ | refine w_test ?_ | refine w_B ?_ | refine w_bool ?_ | refine w_not ?_ | refine w_cb ?_ | refine w_nil ?_ | refine w_cons ?_ | refine w_asg ?_ | refine w_name ?_ | refine w_seq ?_ | refine w_ret ?_ | refine w_drop ?_ | refine w_next ?_ | refine w_ifS ?_ | refine w_I0 ?_ | refine w_eqI ?_ | refine w_neI ?_ | refine w_int ?_ | refine w_abs ?_ | refine w_sl ?_ | refine w_part ?_ | refine w_intO ?_ | refine w_nopart ?_ | refine w_gsub ?_ | refine w_augS ?_ | refine w_ip ?_ | refine w_lst ?_ | refine w_tup ?_ | refine w_if ?_ | refine w_and ?_ | refine w_or ?_ | refine w_tfld ?_ | refine w_forL ?_ | refine w_forT ?_ | refine w_forR1 ?_ | refine w_forR2 ?_ | refine w_forE ?_ | refine w_lcL ?_ | refine w_lcR1 ?_ | refine w_bm ?_ | refine w_call ?_ | refine w_meth ?_ | refine w_nget ?_ | refine w_nin ?_ | refine w_nput ?_ | refine w_eqS ?_ | refine w_neS ?_))
local macro_rules | `(tactic| walk_at "rs r2") => `(tactic| first | (walk_at "rs r1") | ((with_reducible refine' w_ixL ?h1 ?h2 ?h3); (case h1 => walk_at "rs sq"); (case h2 => first | rfl | exact atI_nat (j := 0) rfl | exact atI_nat (j := 1) rfl | exact atI_nat (j := 2) rfl)) | ((with_reducible refine' w_ixT ?h1 ?h2 ?h3); (case h1 => walk_at "rs sq"); (case h2 => first | rfl | exact atI_nat (j := 0) rfl | exact atI_nat (j := 1) rfl | exact atI_nat (j := 2) rfl)) | ((with_reducible refine' w_cutL ?h1 ?_); (case h1 => walk_at "rs sq"); intro q hq) | ((with_reducible refine' w_cat ?h1 ?h2 ?h3 ?_); (case h1 => walk_at "rs hp"); (case h2 => walk_at "rs hp"); (case h3 => walk_at "rs sz"); intro q hq) | ((with_reducible refine' w_small ?h1 ?_); (case h1 => exact Nat.le_of_ble_eq_true rfl); intro q hq) | ((with_reducible refine' w_setL ?h1 ?h2 ?_); (case h1 => walk_at "rs hp"); (case h2 => rfl)) | ((with_reducible refine' w_getL ?h0 ?h1 ?h2 ?_); (case h0 => rfl); (case h1 => walk_at "rs sq"); (case h2 => rfl)) | ((with_reducible refine' w_lenL ?h1 ?_); (case h1 => walk_at "rs sq")) | ((with_reducible refine' w_lenT ?h1 ?_); (case h1 => walk_at "rs sq")) | ((with_reducible refine' w_fld ?h1 ?h2 ?h3 ?h4 ?_); (case h1 => assumption); (case h2 => assumption); (case h3 => walk_at "rs hp"); (case h4 => assumption)) | ((with_reducible refine' w_methAt ?h1 ?h2 ?_); (case h1 => walk_at "rs hp"); (case h2 => assumption)) | ((with_reducible refine' w_tyL ?h1 ?_); (case h1 => walk_at "rs sq")) | ((with_reducible refine' w_append ?h1 ?h2 ?_); (case h1 => walk_at "rs hp"); (case h2 => assumption)) | ((with_reducible refine' w_I ?h1 ?_); (case h1 => walk_at "rs ar")))
local macro_rules | `(tactic| walk_at "rs rd") => `(tactic| repeat (walk_at "rs r2"))
abbrev sTold : Stmt := top 21
structure Txt7 (mg : Str → Option Value) : Prop where
  tuple : mg "tuple" = none
  len : mg "len" = none
  dict : mg "dict" = none
  enumerate : mg "enumerate" = none
theorem w_par {i j : Nat} {ta : TA} {D : Ends} {σ : L2.St} {H : Hp} (k : ta σ H fun vs H1 => ∃ v w, vs = [v, w] ∧ D.nx ((σ.set i (some v)).set j (some w)) H1) : tPar i j ta D σ H := k
theorem w_par2 {P : V → V → Prop} {v w : V} (k : P v w) : ∃ v' w', [v, w] = [v', w'] ∧ P v' w' := ⟨v, w, rfl, k⟩
local macro_rules | `(tactic| walk_at "rs r3") => `(tactic| first | (walk_at "rs r2") | ((with_reducible refine' w_isiTup ?h1 ?h2 ?_); (case h1 => walk_at "rs hp"); (case h2 => rfl)) | ((with_reducible refine' w_isiInt ?h2 ?_); (case h2 => rfl)) | ((with_reducible refine w_range1 ?_); intro q hq) | ((with_reducible refine' w_notrng ?h1 ?_); (case h1 => walk_at "rs hp")) | ((with_reducible refine' w_ifT ?h1 ?_); (case h1 => first | with_reducible rfl | decide | rfl)) | ((with_reducible refine' w_ifF ?h1 ?_); (case h1 => first | with_reducible rfl | decide | rfl)))
local macro_rules | `(tactic| walk_at "rs rx") => `(tactic| repeat (walk_at "rs r3"))
theorem w_lcE {K : PySem.W.Frag} {te : TE} {g : TG} {tt : TT} {js : List Nat} {t : TA} {σ : L2.St} {H : Hp} {Q : VK} (k : t σ H fun vs H1 => ∃ a xs, vs = [.ref a] ∧ SqL K H1 a xs ∧ LcG (te := te) (Ite K a) g tt js Q σ H1) : tLc (iEnum K t) g tt te js σ H Q := by
  refine (show t σ H _ from ?_)
  exact k
theorem kvsOf_keys : ∀ (L : List NestedKey) (n : Nat), (kvsOf L n).map (·.1) = L
  | [], _ => rfl
  | k :: r, n => by
    show k :: (kvsOf r (n + 1)).map (·.1) = k :: r
    rw [kvsOf_keys r (n + 1)]
theorem pairMono {H H' : Hp} (ht : ∀ b xs, H b = some (.tup xs) → H' b = some (.tup xs)) : ∀ {ts : List Addr} {es : List (NestedKey × Addr × V)}, Paired (fun (t : Addr) (e : NestedKey × Addr × V) => H t = some (.tup [.ref e.2.1, e.2.2])) ts es → Paired (fun (t : Addr) (e : NestedKey × Addr × V) => H' t = some (.tup [.ref e.2.1, e.2.2])) ts es
  | _, _, .nil => .nil
  | _, _, .cons h t => .cons (ht _ _ h) (pairMono ht t)
theorem dp_nats {K : PySem.W.Frag} {H : Hp} : ∀ xs : List Nat, DpAll K H (xs.map fun i : Nat => V.int (i : Int)) (xs.map fun i : Nat => PyData.int (i : Int))
  | [] => .nil
  | _ :: r => .cons (.int _) (dp_nats r)
theorem good_nats {xs : List Nat} (h : ∀ i ∈ xs, i < 100000) (hl : xs.length ≤ 20000) : Good (.tuple (xs.map fun i : Nat => PyData.int (i : Int))) := by
  have q := (Good.ints (fs := xs.map fun i : Nat => (i : Int)) (fun p hp => by
    obtain ⟨i, hi, rfl⟩ := List.mem_map.mp hp
    have := h i hi
    omega) (by rw [List.length_map]; exact hl)).1
  rw [List.map_map] at q
  exact q
theorem flat_nats : ∀ xs : List Nat, (xs.map fun i : Nat => V.int (i : Int)).all flatV = true
  | [] => rfl
  | _ :: r => flat_nats r
theorem inV_nats (n : Nat) (xs : List Nat) : inV (.int (n : Int)) (xs.map fun i : Nat => V.int (i : Int)) = decide (n ∈ xs) := by
  have h := inV_ints (n : Int) (xs.map fun i : Nat => (i : Int))
  rw [List.map_map] at h
  refine h.trans (decide_eq_decide.mpr ⟨fun z => ?_, fun z => List.mem_map.mpr ⟨n, z, rfl⟩⟩)
  obtain ⟨m, hm, e⟩ := List.mem_map.mp z
  obtain rfl : m = n := by omega
  exact hm
/-- rows that repr may be asked of -/
def RowsOk (L : List NestedKey) : Prop := ∀ k ∈ L, okD (toPy k) = true ∧ k.depth ≤ 8
theorem step_ok {L : List NestedKey} {seen : List Int} {W : List Nat} {j h : Nat} {k : NestedKey} (hs : StepAt L seen W j h k) (ho : RowsOk L) (hsl : seen.length ≤ 100) (hj : j ≤ 3000) : okD (toPy k) = true ∧ (toPy k).depth ≤ 20 := by
  rcases hs with ⟨m, hm, rfl⟩ | ⟨o, ns, idx, hL, rfl, _, hidx⟩
  · have hml := (List.getElem?_eq_some_iff.mp hm).1
    refine ⟨?_, Nat.le_of_ble_eq_true rfl⟩
    show (okD (.str "seen") && (decide ((m : Int).natAbs < 10 ^ 12) && true)) = true
    rw [decide_eq_true (by omega)]
    decide +kernel
  · have hk := (ho _ (List.mem_of_getElem? hL)).1
    have hk' : (okD (.str "op") && (okD (.str o) && (okDs (toPys (ns.map .num)) && true))) = true := hk
    rw [Bool.and_eq_true, Bool.and_eq_true] at hk'
    have hn : ∀ idx : List Nat, (∀ i ∈ idx, i ≤ 3000) → okDs (toPys (idx.map fun i : Nat => NestedKey.num (i : Int))) = true ∧ PyData.depthAll (toPys (idx.map fun i : Nat => NestedKey.num (i : Int))) ≤ 1 := fun idx => by
      induction idx with
      | nil => exact fun _ => ⟨rfl, Nat.zero_le _⟩
      | cons n r ih =>
        intro h
        have h1 := h n List.mem_cons_self
        obtain ⟨i1, i2⟩ := ih fun q hq => h q (List.mem_cons_of_mem _ hq)
        refine ⟨?_, ?_⟩
        · show (decide ((n : Int).natAbs < 10 ^ 12) && okDs (toPys (r.map fun i : Nat => NestedKey.num (i : Int)))) = true
          rw [i1, decide_eq_true (by omega)]
          rfl
        · show max (PyData.depth (toPy (.num (n : Int)))) (PyData.depthAll (toPys (r.map fun i : Nat => NestedKey.num (i : Int)))) ≤ 1
          have : PyData.depth (toPy (.num (n : Int))) = 0 := rfl
          omega
    obtain ⟨a, b⟩ := hn idx fun i hi => by
      obtain ⟨t, ht⟩ := List.getElem?_of_mem hi
      have := (hidx t i ht).1
      omega
    refine ⟨?_, ?_⟩
    · show (okD (.str "op") && (okD (.str o) && (okDs (toPys (idx.map fun i : Nat => NestedKey.num (i : Int))) && true))) = true
      rw [hk'.1, hk'.2.1, a]
      rfl
    · show max 0 (max 0 (max (PyData.depthAll (toPys (idx.map fun i : Nat => NestedKey.num (i : Int))) + 1) 0)) + 1 ≤ 20
      omega
theorem steps_shaped {L : List NestedKey} {seen : List Int} {W : List Nat} {st : List NestedKey} (hs : StepsOk L seen W st) (ho : RowsOk L) (hsl : seen.length ≤ 100) (hW : W.length ≤ 3000) : SeqAt.shaped (.tuple (toPys st)) = true := by
  have h1 : ∀ st : List NestedKey, (∀ k ∈ st, okD (toPy k) = true ∧ (toPy k).depth ≤ 20) → okDs (toPys st) = true ∧ PyData.depthAll (toPys st) ≤ 20 := fun st => by
    induction st with
    | nil => exact fun _ => ⟨rfl, Nat.zero_le _⟩
    | cons k r ih =>
      intro h
      obtain ⟨a1, a2⟩ := h k List.mem_cons_self
      obtain ⟨b1, b2⟩ := ih fun q hq => h q (List.mem_cons_of_mem _ hq)
      refine ⟨?_, ?_⟩
      · show (okD (toPy k) && okDs (toPys r)) = true
        rw [a1, b1]
        rfl
      · show max (PyData.depth (toPy k)) (PyData.depthAll (toPys r)) ≤ 20
        omega
  obtain ⟨a, b⟩ := h1 st fun k hk => by
    obtain ⟨j, hj⟩ := List.getElem?_of_mem hk
    have hjl := (List.getElem?_eq_some_iff.mp hj).1
    have hjW : j < W.length := by rw [← hs.1]; exact hjl
    exact step_ok (hs.2 j W[j] k (List.getElem?_eq_getElem hjW) hj) ho hsl (by omega)
  unfold SeqAt.shaped
  have hd : (PyData.tuple (toPys st)).depth ≤ 64 := by
    show PyData.depthAll (toPys st) + 1 ≤ 64
    omega
  rw [okD_lay (.tuple (toPys st)) a, decide_eq_true hd]
  rfl
def spTold (P : Program) (w : World) (K : PySem.W.Frag) (C : Addr) : Sp := fun vs H Q _ => ∃ (g rp sn np l d : Addr) (L : List NestedKey) (rs : List V) (seen : List Int) (nodes : List Nat), vs = [.ref g, .ref rp, .ref sn, .ref np] ∧ GraphAt P w C H g l d L ∧ H rp = some (.lst rs) ∧ NKs H L rs ∧
  H sn = some (.tup (seen.map V.int)) ∧ (∀ s ∈ seen, 0 ≤ s ∧ s < (L.length : Int)) ∧ seen.length ≤ 100 ∧ RowsAt L ∧ RowsOk L ∧ H np = some (.lst (nodes.map fun i : Nat => V.int (i : Int))) ∧ (∀ n ∈ nodes, n < L.length) ∧ ∀ H', Fm [] H H' → Q (.bl true) H'
section
variable {P : Program} {w : World} {K : PySem.W.Frag} {mg : Str → Option Value} {base : Heap} {C CT fT CN : Addr}
theorem scTold : FnScope ["graph", "rows", "seen", "nodes", "due", "spots", "at", "row", "node", "told"] ["graph", "rows", "seen", "nodes"] (defScope sTold) := ⟨rfl, rfl, rfl, by decide +kernel, rfl, by decide +kernel, by decide +kernel⟩
theorem ok_told {f fCl fBu fRe fTo fMa fA : Addr} {fd fdCl fdBu fdRe fdTo fdMa fdA : FuncData} (F : Fun K "_law_are_told" "_law_are_told" sTold f fd) (T : TxtG P K mg C CT fT CN) (T7 : Txt7 mg)
    (GCl : FnOk P w K mg base CX0 1 fCl fdCl ["rows", "seen"] (spClo K)) (mCl : mg "_law_closure" = some (.ref fCl)) (kCl : PySem.W.keepIn K (.ref fCl) = true) (bCl : Binds K fdCl ["rows", "seen"] [])
    (GBu : FnOk P w K mg base CX0 5 fBu fdBu ["graph", "nodes"] (spBuilt P w C)) (mBu : mg "built" = some (.ref fBu)) (kBu : PySem.W.keepIn K (.ref fBu) = true) (bBu : Binds K fdBu ["graph", "nodes"] [])
    (GRe : FnOk P w K mg base CX0 5 fRe fdRe ["graph", "nodes", "node"] (spRecipe P w C)) (mRe : mg "recipe_of" = some (.ref fRe)) (kRe : PySem.W.keepIn K (.ref fRe) = true) (bRe : Binds K fdRe ["graph", "nodes", "node"] [])
    (GTo : FnOk P w K mg base CX0 1 fTo fdTo ["rows", "spots", "seen", "thing", "node"] (spTo P w K)) (mTo : mg "_law_is_recipe_to" = some (.ref fTo)) (kTo : PySem.W.keepIn K (.ref fTo) = true) (bTo : Binds K fdTo ["rows", "spots", "seen", "thing", "node"] [])
    (GMa : FnOk P w K mg base CX0 1 fMa fdMa ["self"] (spMany P w C)) (bMa : Binds K fdMa ["self"] []) (mMa : Meth K C "many" fMa)
    (GA : FnG P w K mg base CX0 1 fA fdA ["found", "due"] (spAlike K)) (mA : mg "_law_alike" = some (.ref fA)) (kA : PySem.W.keepIn K (.ref fA) = true) (bA : Binds K fdA ["found", "due"] []) :
    FnG P w K mg base CX0 6 f fd ["graph", "rows", "seen", "nodes"] (spTold P w K C) := by
  refine okG F scTold (fun vs H Q E h => ?_) (fun cdv A outer s H vs Q E hgd hr h => ?_)
  · obtain ⟨g, rp, sn, np, l, d, L, rs, seen, nodes, rfl, _⟩ := h
    rfl
  · obtain ⟨g, rp, sn, np, l, d, L, rs, seen, nodes, rfl, G, hrp, nks, hsn, hse, hsl, hR, hok, hnp, hno, k⟩ := h
    have nd := scTold.nd
    have hu1 := hu_of hr
    refine ⟨_, (pss_cons (ps_par (i := 4) (j := 5) rfl nd rfl rfl (by decide) rfl rfl (pa_cons (pe_call (E := E0) GCl (hr.mono (by decide)) rfl mCl kCl bCl .nil pass0 (pa_cons (pv 1) (pa_cons (pv 2) pa_nil))) (pa_cons (pe_callTy (call_dictN rfl (hu64 hr)) (by rfl) T7.dict (by decide +kernel) (pa_cons (pe_lc (own := [("at", 6), ("row", 7)]) (g := gTup K 2 (gCons (gName 6) (gCons (gName 7) gNil))) (tt := tYes) rfl nd (pi_enum rfl T7.enumerate (pa_cons (pv 1) pa_nil)) (blkOk_by (N := ["graph", "rows", "seen", "nodes", "due", "spots", "at", "row", "node", "told"]) (sc := defScope sTold) (by decide +kernel)) (fun _ _ _ _ _ => pg_tup rfl (pgs_cons (pg_name (i := 6) nd rfl (Or.inl rfl)) (pgs_cons (pg_name (i := 7) nd rfl (Or.inl rfl)) pgs_nil))) (fun _ _ _ _ _ => pts_nil) (fun _ _ _ _ _ => (pe_tup (pa_cons (pv 7) (pa_cons (pv 6) pa_nil))))) pa_nil)) pa_nil)) rfl) (pss_cons (ps_if (pt_not (pt_val (pe_callG (E := E0) GA hgd (hr.mono (by decide)) rfl mA kA bA pass0 (pa_cons (pe_call (E := E0) GBu (hr.mono (by decide)) rfl mBu kBu bBu .nil pass0 (pa_cons (pv 0) (pa_cons (pv 2) pa_nil))) (pa_cons (pe_callTy call_tuple_of (by rfl) T7.tuple (by decide +kernel) (pa_cons (pv 4) pa_nil)) pa_nil))))) (pss_one (ps_ret pe_bl)) pss_nil) (Evl.pss_cut (ps_for PassesOwn.never rfl (pi_list (pv 3)) (pg_name (i := 8) nd rfl (Or.inl rfl)) (pss_cons (ps_set (i := 9) nd rfl (Or.inl rfl) (pe_call (E := E0) GRe (hr.mono (by decide)) rfl mRe kRe bRe .nil pass0 (pa_cons (pv 0) (pa_cons (pv 2) (pa_cons (pv 8) pa_nil))))) (pss_one (ps_if (PW.pt (pw_or (PW.pt (pw_and (pt_cmpR op_isN (pv 9) pe_non (nomark _)) (pw_and1 (pt_cmpR op_in_seq (pv 8) (pv 4) rfl)))) (pw_or1 (PW.pt (pw_and (pt_cmpR op_notN (pv 9) pe_non (nomark _)) (pw_and1 (PW.pt (pw_or (pt_cmpR op_notIn_seq (pv 8) (pv 4) rfl) (pw_or1 (pt_not (pt_val (pe_call (E := E0) GTo (hr.mono (by decide)) rfl mTo kTo bTo .nil pass0 (pa_cons (pv 1) (pa_cons (pv 5) (pa_cons (pv 2) (pa_cons (pv 9) (pa_cons (pv 8) pa_nil))))))))))))))))) (pss_one (ps_ret pe_bl)) pss_nil)))) (pss_one (ps_ret (pe_callG (E := E0) GA hgd (hr.mono (by decide)) rfl mA kA bA pass0 (pa_cons (pe_meth0 (E := E0) (pv 0) T.cl mMa GMa (hr.mono (by decide)) bMa .nil pass0) (pa_cons (pe_callB c_len (by rfl) T7.len PySem.boot_len (pa_cons (pv 1) pa_nil)) pa_nil)))))))), ?_⟩
    have hlen : L.length ≤ 3000 := by
      obtain ⟨_, _, _, _, _, _, _, _, h⟩ := G
      exact h
    have hnd : L.Nodup := by
      obtain ⟨_, _, _, _, _, _, h, _, _⟩ := G
      exact h
    have tupF : ∀ {A : Hp}, Fm [] H A → ∀ b xs, H b = some (.tup xs) → A b = some (.tup xs) := fun f b xs e => f _ _ e List.not_mem_nil
    refine w_seq (w_par ?_)
    have GF : ∀ {A : Hp}, Fm [] H A → GraphAt P w C A g l d L := fun f => G.same f
    walk_at "rs rx"
    refine ⟨rp, sn, L, rs, seen, rfl, hrp, nks, hsn, hlen, hsl, hse, hR, fun du H1 hdu e1 f1 => ?_⟩
    walk_at "rs rx"
    refine w_lcE ?_
    walk_at "rs rx"
    refine ⟨rp, rs, rfl, SqL.of (f1 _ _ hrp List.not_mem_nil), fun D hD => ?_⟩
    have hdD : du ≠ D := ne_of_none e1 hD
    have hD0 : H D = none := f1.none hD List.not_mem_nil
    refine lc_it (walk_enum (xs := rs)) (fun i H' => ∃ (ts : List Addr) (es : List (NestedKey × Addr × V)), H' D = some (.lst (ts.map V.ref)) ∧ Paired (fun (t : Addr) (e : NestedKey × Addr × V) => H' t = some (.tup [.ref e.2.1, e.2.2])) ts es ∧ (∀ e ∈ es, NK H e.1 (.ref e.2.1) ∧ e.1.depth ≤ 8) ∧ es.map (fun e => (e.1, e.2.2)) = kvsOf (L.take i) 0 ∧ Fm [] H1 H')
      ⟨[], [], upd_same, .nil, fun e h => (nomatch h), rfl, Fm.new hD⟩ (fun i H' _ ⟨_, _, _, _, _, _, f⟩ => SqL.of (f _ _ (f1 _ _ hrp List.not_mem_nil) List.not_mem_nil)) ?_ ?_
    · rintro i x H2 H3 hi ⟨ts, es, e2, pr, hes, hkv, f2⟩ ⟨ta, x, v, rfl, hta, rfl, hx, hv⟩
      cases hx
      have hv' : rs[i]? = some v := hv
      have hiL : i < L.length := by rw [nks.len]; exact hi
      have hk : L[i]? = some L[i] := List.getElem?_eq_getElem hiL
      generalize L[i] = k0 at hk
      obtain ⟨v0, hv0, nk0⟩ := nks.get hk
      rw [hv'] at hv0
      cases hv0
      have htl : ts.length = i := by
        have h1 := Paired.length pr
        have h2 := congrArg List.length hkv
        rw [List.length_map, kvsOf_len, List.length_take] at h2
        omega
      obtain ⟨ks, hks⟩ : ∃ ks, k0 = .tup ks := by
        obtain ⟨b, rfl⟩ | ⟨o, ns, rfl, _⟩ := hR i k0 hk
        · exact ⟨_, rfl⟩
        · exact ⟨_, rfl⟩
      obtain ⟨b, rfl⟩ : ∃ b : Addr, v = .ref b := by
        subst hks
        cases nk0 with
        | tup a b => exact ⟨_, rfl⟩
      refine ⟨ta, _, rfl, SqT.of upd_same, rfl, _, _, rfl, w_name ⟨_, _, rfl, w_name ⟨rfl, rfl, w_yes ?_⟩⟩⟩
      walk_at "rs rx"
      rename_i q hq
      have g3 : Fm [] H2 (upd (upd H2 ta (.tup [.int (i : Int), .ref b])) q (.tup [.ref b, .int (i : Int)])) := (Fm.new hta).thenNew hq
      have eD3 := g3 _ _ e2 List.not_mem_nil
      have eq3 : upd (upd H2 ta (.tup [.int (i : Int), .ref b])) q (.tup [.ref b, .int (i : Int)]) q = some (.tup [.ref b, .int (i : Int)]) := upd_same
      generalize upd (upd H2 ta (.tup [.int (i : Int), .ref b])) q (.tup [.ref b, .int (i : Int)]) = H4 at g3 eD3 eq3 ⊢
      have keep : ∀ a xs, H4 a = some (.tup xs) → upd H4 D (.lst (ts.map V.ref ++ [.ref q])) a = some (.tup xs) := fun a xs e => by
        rw [upd_ne (fun z => by rw [z, eD3] at e; cases e)]
        exact e
      refine ⟨_, eD3, by rw [List.length_map, sizeLine_eq]; omega, ts ++ [q], es ++ [(k0, b, .int (i : Int))], by rw [upd_same, List.map_append]; rfl, ?_, ?_, ?_, (f2.trans g3).thenOwn hD⟩
      · exact Paired.snoc (pairMono (fun a xs e => keep _ _ (g3 _ _ e List.not_mem_nil)) pr) (keep _ _ eq3)
      · intro e he
        rcases List.mem_append.mp he with he | he
        · exact hes e he
        · rw [List.mem_singleton] at he
          subst he
          exact ⟨nk0, (hok k0 (List.mem_of_getElem? hk)).2⟩
      · rw [List.map_append, hkv, show L.take (i + 1) = L.take i ++ [k0] by rw [List.take_succ, hk]; rfl, kvsOf_snoc, List.length_take, Nat.min_eq_left (Nat.le_of_lt hiL), Nat.zero_add]
        rfl
    · rintro H2 ⟨ts, es, e2, pr, hes, hkv, f2⟩
      rw [← nks.len, List.take_length] at hkv
      have f3 := f1.trans f2
      have hek : es.map (·.1) = L := by
        have h := congrArg (List.map (·.1)) hkv
        rw [List.map_map, kvsOf_keys] at h
        exact h
      walk_at "rs rx"
      refine ⟨D, ts, es, rfl, SqL.of e2, pairSq pr, fun e he => ⟨NK.mono (tupF f3) _ _ (hes e he).1, (hes e he).2⟩, by rw [hek]; exact hnd, fun sp H3 hsp nd3 sm3 => ?_⟩
      rw [hkv] at nd3
      have f4 : Fm [] H H3 := fun a o e n => by
        have z := f3 a o e n
        rw [sm3 a (ne_of_none z hsp)]
        exact z
      have e4 : H3 du = some (.lst ((builtL L seen L.length).map fun i : Nat => V.int (i : Int))) := by
        have z := f2 _ _ e1 List.not_mem_nil
        rw [sm3 du (ne_of_none z hsp)]
        exact z
      clear pr hes hkv f3 hek e2 f2 hsp sm3 hD hdD hD0 e1 f1
      walk_at "rs rx"
      refine w_par2 ?_
      walk_at "rs rx"
      have nd4 : ND P w H3 sp (kvsOf L 0) := nd3
      clear nd3
      refine ⟨g, sn, l, d, L, seen, rfl, GF f4, tupF f4 _ _ hsn, hse, hR, fun bt H4 ebt f5 => ?_⟩
      walk_at "rs rx"
      refine ⟨du, _, rfl, .inl ⟨SqL.of (f5 _ _ e4 List.not_mem_nil), fun t2 ht2 => ?_⟩⟩
      walk_at "rs rx"
      have g5 : Fm [] H4 (upd H4 t2 (.tup ((builtL L seen L.length).map fun i : Nat => V.int (i : Int)))) := Fm.new ht2
      refine ⟨_, _, .tuple ((builtL L seen L.length).map fun i : Nat => .int (i : Int)), rfl, .tup (SqT.of (g5 _ _ ebt List.not_mem_nil)) (dp_nats _), .tup (SqT.of upd_same) (dp_nats _), good_nats (fun i hi => by have := (mem_builtL.mp hi).1; omega) (by have := builtL_len (L := L) (seen := seen) (n := L.length); omega), .inr (.inr ⟨_, rfl⟩), ?_⟩
      have f6 : Fm [] H (upd H4 t2 (.tup ((builtL L seen L.length).map fun i : Nat => V.int (i : Int)))) := (f4.trans f5).trans g5
      have e6 := g5 _ _ (f5 _ _ e4 List.not_mem_nil) List.not_mem_nil
      have g36 := f5.trans g5
      have nd6 : ND P w (upd H4 t2 (.tup ((builtL L seen L.length).map fun i : Nat => V.int (i : Int)))) sp (kvsOf L 0) := ND.frame nd4 (fun o e => g36 _ _ e List.not_mem_nil) (fun b xs e => g36 _ _ e List.not_mem_nil)
      generalize upd H4 t2 (.tup ((builtL L seen L.length).map fun i : Nat => V.int (i : Int))) = H5 at f6 e6 nd6 ⊢
      clear ht2 g5 g36 ebt f5 e4 nd4 f4
      walk_at "rs rx"
      refine w_cut (M := fun σ H' => ∃ o8 o9, σ = [some (.ref g), some (.ref rp), some (.ref sn), some (.ref np), some (.ref du), some (.ref sp), none, none, o8, o9] ∧ Fm [] H H') ?_ ?_
      · walk_at "rs rx"
        refine ⟨np, rfl, ⟨_, SqL.of (f6 _ _ hnp List.not_mem_nil)⟩, for_it (walk_list (xs := nodes.map fun i : Nat => V.int (i : Int))) (fun i σ H' => ∃ o8 o9, σ = [some (.ref g), some (.ref rp), some (.ref sn), some (.ref np), some (.ref du), some (.ref sp), none, none, o8, o9] ∧ Fm [] H5 H')
          ⟨_, _, rfl, Fm.refl _ _⟩ (fun i σ H' _ ⟨_, _, _, f⟩ => SqL.of (f _ _ (f6 _ _ hnp List.not_mem_nil) List.not_mem_nil)) ?_ (fun σ H' ⟨o8, o9, e, f⟩ => ⟨o8, o9, e, f6.trans f⟩)⟩
        rintro i x σ H6 H7 hi ⟨o8, o9, rfl, f7⟩ ⟨rfl, hx⟩
        rw [List.getElem?_map] at hx
        obtain ⟨n, hn, rfl⟩ := Option.map_eq_some_iff.mp hx
        have hnL := hno n (List.mem_of_getElem? hn)
        have f8 := f6.trans f7
        have e8 := f7 _ _ e6 List.not_mem_nil
        refine w_name ?_
        walk_at "rs rx"
        refine ⟨g, sn, l, d, L, seen, n, rfl, GF f8, tupF f8 _ _ hsn, hse, hR, hnL, hsl, fun hm H8 f9 => ?_, fun hm p W st H8 hWl hla hso nk f9 => ?_⟩
        · have e9 := f9 _ _ e8 List.not_mem_nil
          have hnb : n ∉ builtL L seen L.length := fun z => by
            rw [(mem_builtL.mp z).2] at hm
            cases hm
          refine w_name ?_
          walk_at "rs rx"
          refine ⟨rfl, _, rfl, w_ifT (decide_eq_true rfl) ?_⟩
          walk_at "rs rx"
          refine ⟨du, _, rfl, .inl (SqL.of e9), rfl, flat_nats _, _, rfl, w_ifF (show (if false = true then _ else inV (.int (n : Int)) _) = false by rw [if_neg Bool.false_ne_true, inV_nats, decide_eq_false hnb]) ?_⟩
          walk_at "rs rx"
          refine ⟨rfl, _, rfl, w_ifF (by decide) ?_⟩
          walk_at "rs rx"
          exact ⟨_, _, rfl, f7.trans f9⟩
        · have e9 := f9 _ _ e8 List.not_mem_nil
          have hnb : n ∈ builtL L seen L.length := mem_builtL.mpr ⟨hnL, hm⟩
          have hWL : ∀ i ∈ W, i < L.length := fun i hi => by
            obtain ⟨j, hj⟩ := List.getElem?_of_mem hi
            have hjl := (List.getElem?_eq_some_iff.mp hj).1
            rcases hso.2 j i (st[j]'(by rw [hso.1]; exact hjl)) hj (List.getElem?_eq_getElem _) with ⟨m, hm', _⟩ | ⟨o, ns, idx, hL, _⟩
            · have := hse _ (List.mem_of_getElem? hm')
              omega
            · exact (List.getElem?_eq_some_iff.mp hL).1
          refine w_name ?_
          walk_at "rs rx"
          refine ⟨rfl, _, rfl, w_ifF (decide_eq_false (fun z => nomatch z)) ?_⟩
          walk_at "rs rx"
          refine ⟨rfl, _, rfl, w_ifT (show (!decide (V.ref p = V.non)) = true by rw [decide_eq_false (fun z => nomatch z)]; rfl) ?_⟩
          walk_at "rs rx"
          refine ⟨du, _, rfl, .inl (SqL.of e9), rfl, flat_nats _, _, rfl, w_ifF (show (if true = true then !inV (.int (n : Int)) _ else _) = false by rw [if_pos rfl, inV_nats, decide_eq_true hnb]; rfl) ?_⟩
          walk_at "rs rx"
          refine ⟨_, sp, sn, p, L, kvsOf L 0, seen, W, st, n, rfl, ND.frame nd6 (fun o e => (f7.trans f9) _ _ e List.not_mem_nil) (fun b xs e => (f7.trans f9) _ _ e List.not_mem_nil), by rw [kvsOf_len]; omega, fun i k0 hk => ⟨by rw [kvsOf_at hnd hk, Nat.zero_add], (hok k0 (List.mem_of_getElem? hk)).2⟩, tupF (f8.trans f9) _ _ hsn, nk, hla, by omega, hso, hWL, steps_shaped hso hok hsl (by omega), fun i o ns hL => ?_, fun H9 f10 => ?_⟩
          · obtain ⟨b, e⟩ | ⟨o', ns', e, h10, _⟩ := hR i _ hL
            · injection e with e
              injection e with e1 e2
              cases e2
            · injection e with e
              injection e with e1 e2
              injection e2 with e2 e3
              injection e3 with e3 e4
              injection e3 with e3
              have := congrArg List.length e3
              rw [List.length_map, List.length_map] at this
              omega
          · walk_at "rs rx"
            exact ⟨_, _, rfl, (f7.trans f9).trans f10⟩
      · rintro σ H6 ⟨o8, o9, rfl, f7⟩
        have G6 := GF f7
        obtain ⟨dx6, vs6, hg6, _⟩ := id G6
        have hr6 := f7 _ _ hrp List.not_mem_nil
        have nMa : (gf l d).lookup ("many" : Str) = none := gf_no _ _ (by decide +kernel) (by decide +kernel)
        walk_at "rs rx"
        refine ⟨g, l, d, L, rfl, G6, ?_⟩
        walk_at "rs rx"
        rw [← nks.len]
        exact ⟨_, _, .int (L.length : Int), rfl, .int _, .int _, Good.int (by omega), .inl ⟨_, rfl⟩, k _ f7⟩
end
end Rs

set_option Elab.async false
set_option linter.all false
set_option maxRecDepth 100000
set_option maxHeartbeats 4000000
/-! what stands about a graph and a bag: helpers -/
namespace Rs
open PySem L2 PySem.Spec PyProof.Rows
section
variable {P : Program} {w : World} {C b c g l d rp sp a e : Addr} {H H' : Hp} {Lg L : List NestedKey} {rs xs : List V} {kvs : List (NestedKey × V)}
theorem lst_ne_nd (h : H a = some (.lst xs)) (x : ND P w H e kvs) : a ≠ e := by
  obtain ⟨es, h1, _⟩ := x
  exact ne_of h h1 fun z => ndo_lst z.symm
theorem Bag.bnd (B : Bag H b c) (x : ND P w H e kvs) : b ≠ e ∧ c ≠ e := by
  obtain ⟨_, _, _, _, h1, _, _, h2, _⟩ := B
  exact ⟨lst_ne_nd h1 x, lst_ne_nd h2 x⟩
theorem GraphAt.nd (x : GraphAt P w C H g l d L) : ND P w H d (kvsOf L 0) := by
  obtain ⟨_, _, _, _, _, h, _⟩ := x
  exact h
theorem GraphAt.ls (x : GraphAt P w C H g l d L) : ∃ vs, H l = some (.lst vs) := by
  obtain ⟨_, vs, _, h, _⟩ := x
  exact ⟨vs, h⟩
theorem GraphAt.ins (x : GraphAt P w C H g l d L) : ∃ dx fs, H g = some (.ins C dx fs) := by
  obtain ⟨dx, _, h, _⟩ := x
  exact ⟨dx, _, h⟩
theorem GraphAt.g_lst (x : GraphAt P w C H g l d L) (h : H a = some (.lst xs)) : g ≠ a := by
  obtain ⟨dx, fs, h1⟩ := x.ins
  exact ne_of h1 h fun z => nomatch z
theorem GraphAt.g_nd (x : GraphAt P w C H g l d L) (h : ND P w H e kvs) : g ≠ e := by
  obtain ⟨dx, fs, h1⟩ := x.ins
  obtain ⟨es, h2, _⟩ := h
  exact ne_of h1 h2 fun z => ndo_ins z.symm
theorem tup_ne_lst {t : Addr} {ys : List V} (e1 : H t = some (.tup ys)) (h : H a = some (.lst xs)) : t ≠ a := ne_of e1 h fun z => nomatch z
theorem tup_ne_nd {t : Addr} {ys : List V} (e1 : H t = some (.tup ys)) (h : ND P w H e kvs) : t ≠ e := by
  obtain ⟨es, h2, _⟩ := h
  exact ne_of e1 h2 fun z => ndo_tup z.symm
theorem GraphAt.tpA (x : GraphAt P w C H g l d L) (f : Fm [l, d] H H') : ∀ a xs, H a = some (.tup xs) → H' a = some (.tup xs) := x.tp f fun a ha => by
  simp only [List.mem_cons, List.not_mem_nil, or_false] at ha
  rcases ha with h | h
  · exact .inl h
  · exact .inr (.inl h)
def upTo (n : Nat) : List Int := (List.range n).map fun j : Nat => (j : Int)
theorem ints_len (n : Nat) : (upTo n).length = n := by simp [upTo]
theorem ints_succ (n : Nat) : upTo (n + 1) = upTo n ++ [(n : Int)] := by simp [upTo, List.range_succ]
theorem dp_ints {K : PySem.W.Frag} {H : Hp} : ∀ l : List Int, DpAll K H (l.map V.int) (l.map PyData.int)
  | [] => .nil
  | i :: r => .cons (.int i) (dp_ints r)
theorem not_in3 {x a b c : Addr} (h1 : x ≠ a) (h2 : x ≠ b) (h3 : x ≠ c) : x ∉ [a, b, c] := fun z => by
  simp only [List.mem_cons, List.not_mem_nil, or_false] at z
  rcases z with z | z | z
  · exact h1 z
  · exact h2 z
  · exact h3 z
theorem w_lstRg {te : L2.St → Hp → (Int → Int → Hp → Prop) → Prop} {σ : L2.St} {H : Hp} {Q : VK} (k : te σ H fun a b H1 => RgOk a b ∧ ∀ q, H1 q = none → Q (.ref q) (upd H1 q (.lst (rgV a b)))) : tLstRg te σ H Q := k
theorem w_rg1 {ta : TE} {σ : L2.St} {H : Hp} {Q : Int → Int → Hp → Prop} (k : ta σ H fun x H1 => ∃ n, x = .int n ∧ Q 0 n H1) : tRg1 ta σ H Q := k
theorem made_fm {H1 H2 : Hp} {g dx : Addr} {o u : HO} (hg : H1 g = none) (hdx : H1 dx = none) (f2 : Fm [g] (upd (upd H1 dx u) g o) H2) : Fm [] H1 H2 := fun a v e _ => f2 a v (by
  rw [upd_ne (ne_of_none e hg), upd_ne (ne_of_none e hdx)]
  exact e) (not_in1 (ne_of_none e hg))
theorem made_ne {H1 : Hp} {g dx l a : Addr} {o u v : HO} (hg : H1 g = none) (hdx : H1 dx = none) (h : upd (upd H1 dx u) g o l = none) (e : H1 a = some v) : a ≠ l := ne_of_none (show upd (upd H1 dx u) g o a = some v by
  rw [upd_ne (ne_of_none e hg), upd_ne (ne_of_none e hdx)]
  exact e) h
theorem w_make {C : Addr} {sp : Sp} {dvs : List V} {E : XK} {t : TA} {σ : L2.St} {H : Hp} {Q : VK} (k : t σ H fun vs H1 => ∀ x dx, H1 x = none → H1 dx = none → dx ≠ x → sp (.ref x :: (vs ++ dvs)) (upd (upd H1 dx (.own x)) x (.ins C dx [])) (fun v H2 => v = .non ∧ Q (.ref x) H2) E) : tMake C sp dvs E t σ H Q := k
end
/-- what stands behind each turn of the law's first loop -/
structure LSt (P : Program) (w : World) (C b c rp tl g l d : Addr) (H : Hp) (L : List NestedKey) (rs : List V) (i : Nat) : Prop where
  bag : Bag H b c
  rows : H rp = some (.lst rs)
  nks : NKs H L rs
  gr : GraphAt P w C H g l d (L.take i)
  told : H tl = some (.lst ((upTo i).map V.int))
structure Dj (b c rp tl l d : Addr) : Prop where
  bl : b ≠ l
  cl : c ≠ l
  rl : rp ≠ l
  tlk : tl ≠ l
  rb : rp ≠ b
  tb : tl ≠ b
  rt : rp ≠ tl
  ct : c ≠ tl
section
variable {P : Program} {w : World} {C b c rp tl g l d : Addr} {H H' : Hp} {L : List NestedKey} {rs : List V} {i : Nat}
theorem LSt.same (x : LSt P w C b c rp tl g l d H L rs i) (f : Fm [] H H') : LSt P w C b c rp tl g l d H' L rs i :=
  ⟨x.bag.frame f List.not_mem_nil List.not_mem_nil, f _ _ x.rows List.not_mem_nil, NKs.mono (fun a xs e => f _ _ e List.not_mem_nil) _ _ x.nks, x.gr.same f, f _ _ x.told List.not_mem_nil⟩
theorem Bag.lst (B : Bag H b c) : ∃ xs, H b = some (.lst xs) := by
  obtain ⟨_, _, _, _, h, _⟩ := B
  exact ⟨_, h⟩
theorem Bag.lstc (B : Bag H b c) : ∃ xs, H c = some (.lst xs) := by
  obtain ⟨_, _, _, _, _, _, _, h, _⟩ := B
  exact ⟨_, h⟩
theorem Bag.tup (B : Bag H b c) (f : Fm [b] H H') : ∀ a xs, H a = some (.tup xs) → H' a = some (.tup xs) := fun a xs e => by
  obtain ⟨ys, h⟩ := B.lst
  exact f _ _ e (not_in1 (tup_ne_lst e h))
theorem LSt.onB (x : LSt P w C b c rp tl g l d H L rs i) (D : Dj b c rp tl l d) (f : Fm [b] H H') (B : Bag H' b c) : LSt P w C b c rp tl g l d H' L rs i := by
  obtain ⟨ys, hb⟩ := x.bag.lst
  refine ⟨B, f _ _ x.rows (not_in1 D.rb), NKs.mono (x.bag.tup f) _ _ x.nks, x.gr.frame f (not_in1 (x.gr.g_lst hb)) (not_in1 D.bl.symm) (not_in1 (lst_ne_nd hb x.gr.nd).symm) (fun a xs e => not_in1 (tup_ne_lst e hb)), f _ _ x.told (not_in1 D.tb)⟩
theorem LSt.onAsk (x : LSt P w C b c rp tl g l d H L rs i) (D : Dj b c rp tl l d) (f : Fm [l, d] H H') {L' : List NestedKey} (hL : L' = L.take (i + 1)) (G : GraphAt P w C H' g l d L') : Bag H' b c ∧ H' rp = some (.lst rs) ∧ NKs H' L rs ∧ GraphAt P w C H' g l d (L.take (i + 1)) ∧ H' tl = some (.lst ((upTo i).map V.int)) := by
  have n2 : ∀ {a : Addr} {xs : List V}, H a = some (.lst xs) → a ≠ l → a ∉ [l, d] := fun {a xs} e h z => by
    simp only [List.mem_cons, List.not_mem_nil, or_false] at z
    rcases z with z | z
    · exact h z
    · exact lst_ne_nd e x.gr.nd z
  obtain ⟨ys, hb⟩ := x.bag.lst
  obtain ⟨zs, hc⟩ := x.bag.lstc
  exact ⟨x.bag.frame f (n2 hb D.bl) (n2 hc D.cl), f _ _ x.rows (n2 x.rows D.rl), NKs.mono (x.gr.tpA f) _ _ x.nks, hL ▸ G, f _ _ x.told (n2 x.told D.tlk)⟩
theorem LSt.onTold (D : Dj b c rp tl l d) (y : Bag H b c ∧ H rp = some (.lst rs) ∧ NKs H L rs ∧ GraphAt P w C H g l d (L.take (i + 1)) ∧ H tl = some (.lst ((upTo i).map V.int))) :
    LSt P w C b c rp tl g l d (upd H tl (.lst ((upTo i).map V.int ++ [.int (i : Int)]))) L rs (i + 1) := by
  obtain ⟨B, hr, nk, G, ht⟩ := y
  have f : Fm [tl] H (upd H tl (.lst ((upTo i).map V.int ++ [.int (i : Int)]))) := Fm.put List.mem_cons_self
  refine ⟨B.frame f (not_in1 D.tb.symm) (not_in1 D.ct), f _ _ hr (not_in1 D.rt), NKs.mono (fun a xs e => f _ _ e (not_in1 (tup_ne_lst e ht))) _ _ nk, G.frame f (not_in1 (G.g_lst ht)) (not_in1 D.tlk.symm) (not_in1 (lst_ne_nd ht G.nd).symm) (fun a xs e => not_in1 (tup_ne_lst e ht)), ?_⟩
  rw [upd_same, ints_succ, List.map_append]
  rfl
end
end Rs

set_option Elab.async false
set_option linter.all false
set_option maxRecDepth 100000
set_option maxHeartbeats 4000000
/-! law -/
namespace Rs
open PySem L2 PySem.Spec PyProof.Rows
local macro_rules | `(tactic| walk_at "rs ne") => `(tactic| first | assumption | (apply Ne.symm; assumption) | (apply ne_n1; assumption; walk_at "rs hp") | (apply ne_n2; assumption; walk_at "rs hp"))
local macro_rules | `(tactic| walk_at "rs hp") => `(tactic| first | assumption | exact upd_same | (apply hp_ne; (walk_at "rs ne"); (walk_at "rs hp")))
local macro_rules | `(tactic| walk_at "rs sq") => `(tactic| first | assumption | (apply SqL.of; walk_at "rs hp") | (apply SqT.of; walk_at "rs hp"))
local macro_rules | `(tactic| walk_at "rs sz") => `(tactic| first | decide | (rw [sizeLine_eq]; simp; done) | (rw [sizeLine_eq]; simp; omega) | (rw [sizeLine_eq]; omega))
local macro_rules | `(tactic| walk_at "rs ar") => `(tactic| first | assumption | (show (0 : Int) < _; first | assumption | decide | omega) | exact Or.inr ⟨by decide, by decide⟩ | exact Or.inl ⟨by decide, by decide⟩ | exact Or.inl ⟨by omega, by omega⟩ | exact Or.inr ⟨by omega, by omega⟩ | exact ⟨by decide, by decide, by decide⟩ | exact ⟨by decide, by decide⟩ | exact ⟨by omega, by omega⟩)
local macro_rules | `(tactic| walk_at "rs r1") => `(tactic| with_reducible (first | refine w_var rfl ?_ | refine w_c ?_ | refine w_op ?_ | refine w_un ?_ | refine w_test ?_ | refine w_B ?_ | refine w_bool ?_ | refine w_not ?_ | refine w_cb ?_ | refine w_nil ?_ | refine w_cons ?_ | refine w_asg ?_ | refine w_name ?_ | refine w_seq ?_ | refine w_ret ?_ | refine w_drop ?_ | refine w_next ?_ | refine w_ifS ?_ | refine w_I0 ?_ | refine w_eqI ?_ | refine w_neI ?_ | refine w_int ?_ | refine w_abs ?_ | refine w_sl ?_ | refine w_part ?_ | refine w_intO ?_ | refine w_nopart ?_ | refine w_gsub ?_ | refine w_augS ?_ | refine w_ip ?_ | refine w_lst ?_ | refine w_tup ?_ | refine w_if ?_ | refine w_and ?_ | refine w_or ?_ | refine w_tfld ?_ | refine w_forL ?_ | refine w_forT ?_ | refine w_forR1 ?_ | refine w_forR2 ?_ | refine w_forE ?_ | refine w_lcL ?_ | refine w_lcR1 ?_ | refine w_bm ?_ | refine w_call ?_ | refine w_meth ?_ | refine w_nget ?_ | refine w_nin ?_ | refine w_nput ?_ | refine w_eqS ?_ | refine w_neS ?_))
local macro_rules | `(tactic| walk_at "rs r2") => `(tactic| first | (walk_at "rs r1") | ((with_reducible refine' w_ixL ?h1 ?h2 ?h3); (case h1 => walk_at "rs sq"); (case h2 => first | rfl | exact atI_nat (j := 0) rfl | exact atI_nat (j := 1) rfl | exact atI_nat (j := 2) rfl)) | ((with_reducible refine' w_ixT ?h1 ?h2 ?h3); (case h1 => walk_at "rs sq"); (case h2 => first | rfl | exact atI_nat (j := 0) rfl | exact atI_nat (j := 1) rfl | exact atI_nat (j := 2) rfl)) | ((with_reducible refine' w_cutL ?h1 ?_); (case h1 => walk_at "rs sq"); intro q hq) | ((with_reducible refine' w_cat ?h1 ?h2 ?h3 ?_); (case h1 => walk_at "rs hp"); (case h2 => walk_at "rs hp"); (case h3 => walk_at "rs sz"); intro q hq) | ((with_reducible refine' w_small ?h1 ?_); (case h1 => exact Nat.le_of_ble_eq_true rfl); intro q hq) | ((with_reducible refine' w_setL ?h1 ?h2 ?_); (case h1 => walk_at "rs hp"); (case h2 => rfl)) | ((with_reducible refine' w_getL ?h0 ?h1 ?h2 ?_); (case h0 => rfl); (case h1 => walk_at "rs sq"); (case h2 => rfl)) | ((with_reducible refine' w_lenL ?h1 ?_); (case h1 => walk_at "rs sq")) | ((with_reducible refine' w_lenT ?h1 ?_); (case h1 => walk_at "rs sq")) | ((with_reducible refine' w_fld ?h1 ?h2 ?h3 ?h4 ?_); (case h1 => assumption); (case h2 => assumption); (case h3 => walk_at "rs hp"); (case h4 => assumption)) | ((with_reducible refine' w_methAt ?h1 ?h2 ?_); (case h1 => walk_at "rs hp"); (case h2 => assumption)) | ((with_reducible refine' w_tyL ?h1 ?_); (case h1 => walk_at "rs sq")) | ((with_reducible refine' w_append ?h1 ?h2 ?_); (case h1 => walk_at "rs hp"); (case h2 => assumption)) | ((with_reducible refine' w_I ?h1 ?_); (case h1 => walk_at "rs ar")))
local macro_rules | `(tactic| walk_at "rs rd") => `(tactic| repeat (walk_at "rs r2"))
local macro_rules | `(tactic| walk_at "rs r3") => `(tactic| first | (walk_at "rs r2") | ((with_reducible refine' w_isiTup ?h1 ?h2 ?_); (case h1 => walk_at "rs hp"); (case h2 => rfl)) | ((with_reducible refine' w_isiInt ?h2 ?_); (case h2 => rfl)) | ((with_reducible refine w_range1 ?_); intro q hq) | ((with_reducible refine' w_notrng ?h1 ?_); (case h1 => walk_at "rs hp")) | ((with_reducible refine' w_ifT ?h1 ?_); (case h1 => first | with_reducible rfl | decide | rfl)) | ((with_reducible refine' w_ifF ?h1 ?_); (case h1 => first | with_reducible rfl | decide | rfl)))
local macro_rules | `(tactic| walk_at "rs rx") => `(tactic| repeat (walk_at "rs r3"))
abbrev sLaw : Stmt := top 22
structure Txt8 (mg : Str → Option Value) : Prop where
  tuple : mg "tuple" = none
  len : mg "len" = none
  list : mg "list" = none
  range : mg "range" = none
  enumerate : mg "enumerate" = none
def spLaw (K : PySem.W.Frag) : Sp := fun vs H Q _ => ∃ (a : Addr) (ns : List Int), vs = [.ref a] ∧ SqL K H a (ns.map V.int) ∧ ns.length ≤ 63 ∧ ∀ H', Q (.bl true) H'
theorem cutV_take {rs : List V} {i : Nat} (h : i ≤ rs.length) : cutV rs none (some (i : Int)) = rs.take i := by
  unfold cutV
  rw [HT.sIx_none, HT.sIx_nat, Nat.min_eq_left h, Nat.sub_zero, List.drop_zero]
theorem NKs.take {H : Hp} : ∀ {L : List NestedKey} {vs : List V}, NKs H L vs → ∀ i, NKs H (L.take i) (vs.take i)
  | _, _, _, 0 => .nil
  | _, _, .nil, _ + 1 => .nil
  | _, _, .cons h t, i + 1 => .cons h (NKs.take t i)
theorem rg_nats (n : Nat) : rgV 0 (n : Int) = (List.range n).map fun j : Nat => V.int (j : Int) := by
  unfold rgV
  rw [show ((n : Int) - 0).toNat = n by omega]
  exact List.map_congr_left fun j _ => by rw [Int.zero_add]
theorem upTo_nats (n : Nat) : (upTo n).map V.int = (List.range n).map fun j : Nat => V.int (j : Int) := by
  unfold upTo
  rw [List.map_map]
  rfl
theorem wrows_fine {L : List NestedKey} (h : ∀ i k, L[i]? = some k → WRow i k) (hL : L.length ≤ 100) : RowsAt L ∧ RowsOk L := by
  refine ⟨fun i k hk => ?_, fun k hk => ?_⟩
  · obtain ⟨t, _, rfl⟩ | ⟨o, ns, _, h3, hb, rfl⟩ := h i k hk
    · exact .inl ⟨_, rfl⟩
    · exact .inr ⟨o, ns, rfl, by omega, hb⟩
  · obtain ⟨j, hj⟩ := List.getElem?_of_mem hk
    have hw := h j k hj
    have hjl := (List.getElem?_eq_some_iff.mp hj).1
    refine ⟨(hw.ok (by omega)).1, ?_⟩
    obtain ⟨t, _, rfl⟩ | ⟨o, ns, _, h3, hb, rfl⟩ := hw
    · exact Nat.le_of_ble_eq_true rfl
    · exact op_depth o ns
theorem w_chain {r r' : R2} {ta tb tc : TE} {σ : L2.St} {H : Hp} {Q : VK} (k : ta σ H fun x H1 => tb σ H1 fun y H2 => r x y H2 fun z H3 => ∃ k, z = .bl k ∧ (if k = true then tc σ H3 fun w' H4 => r' y w' H4 Q else Q (.bl false) H3)) : tChain r r' ta tb tc σ H Q := k
theorem NKs.append {H : Hp} : ∀ {A B : List NestedKey} {as bs : List V}, NKs H A as → NKs H B bs → NKs H (A ++ B) (as ++ bs)
  | [], _, _, _, h, k => by cases h; exact k
  | _ :: _, _, _, _, h, k => by
    cases h with
    | cons h1 h2 => exact .cons h1 (NKs.append h2 k)
def chainK (n j : Nat) : NestedKey := .tup [.text "op", .text "k", .tup ([(n : Int) - 1 + (j : Int)].map .num)]
def chainL (n t : Nat) : List NestedKey := (List.range t).map (chainK n)
theorem chainL_len (n t : Nat) : (chainL n t).length = t := by simp [chainL]
theorem chainL_succ (n t : Nat) : chainL n (t + 1) = chainL n t ++ [chainK n t] := by simp [chainL, List.range_succ]
theorem chain_fine {L : List NestedKey} {t : Nat} (h : ∀ i k, L[i]? = some k → WRow i k) (hnd : L.Nodup) (hL1 : 1 ≤ L.length) (hL : L.length ≤ 100) (ht : t ≤ 4000) : RowsAt (L ++ chainL L.length t) ∧ RowsOk (L ++ chainL L.length t) ∧ (L ++ chainL L.length t).Nodup := by
  have h0 := wrows_fine h hL
  refine ⟨fun i k hk => ?_, fun k hk => ?_, ?_⟩
  · by_cases hi : i < L.length
    · rw [List.getElem?_append_left hi] at hk
      exact h0.1 i k hk
    · rw [List.getElem?_append_right (by omega)] at hk
      unfold chainL at hk
      rw [List.getElem?_map] at hk
      obtain ⟨j, hj, rfl⟩ := Option.map_eq_some_iff.mp hk
      have e : j = i - L.length := by
        obtain ⟨hj1, hj2⟩ := List.getElem?_eq_some_iff.mp hj
        rw [List.getElem_range] at hj2
        exact hj2.symm
      exact .inr ⟨"k", [(L.length : Int) - 1 + (j : Int)], rfl, Nat.le_of_ble_eq_true rfl, fun n hn => by
        rw [List.mem_singleton] at hn
        omega⟩
  · rcases List.mem_append.mp hk with hk | hk
    · exact h0.2 k hk
    · obtain ⟨j, hj, rfl⟩ := List.mem_map.mp hk
      have := List.mem_range.mp hj
      refine ⟨?_, op_depth _ _⟩
      show (okD (.str "op") && (okD (.str "k") && ((decide (((L.length : Int) - 1 + (j : Int)).natAbs < 10 ^ 12) && true) && true))) = true
      rw [decide_eq_true (by omega)]
      decide +kernel
  · rw [List.nodup_append]
    refine ⟨hnd, ?_, fun x hx y hy e => ?_⟩
    · unfold chainL
      refine List.Pairwise.map (R := (· ≠ ·)) _ (fun a b hab e => hab ?_) List.nodup_range
      unfold chainK at e
      injection e with e
      injection e with _ e
      injection e with _ e
      injection e with e _
      injection e with e
      injection e with e _
      injection e with e
      omega
    · obtain ⟨j, hj⟩ := List.getElem?_of_mem hx
      obtain ⟨m, _, rfl⟩ := List.mem_map.mp hy
      obtain ⟨t, _, e2⟩ | ⟨o, ns, ho, _, _, e2⟩ := h j x hj
      · rw [e] at e2
        unfold chainK at e2
        injection e2 with e2
        injection e2 with _ e2
        injection e2 with e2 e3
        cases e3
      · rw [e] at e2
        unfold chainK at e2
        injection e2 with e2
        injection e2 with _ e2
        injection e2 with e2 e3
        injection e2 with e2
        rw [← e2] at ho
        exact absurd ho (by decide +kernel)
section
variable {P : Program} {w : World} {K : PySem.W.Frag} {mg : Str → Option Value} {base : Heap} {C CT fT CN : Addr}
theorem scLaw : FnScope ["script", "bag", "rows", "turn", "graph", "told", "at", "row", "seen", "k", "nodes"] ["script"] (defScope sLaw) := ⟨rfl, rfl, rfl, by decide +kernel, rfl, by decide +kernel, by decide +kernel⟩
theorem ok_law {f fB fTa fSo fRo fTo fI fLe fNo : Addr} {fd fdB fdTa fdSo fdRo fdTo fdI fdLe fdNo : FuncData} (F : Fun K "law" "law" sLaw f fd) (T : TxtG P K mg C CT fT CN) (T8 : Txt8 mg)
    (MG : Mk K C fI) (mG : mg "Graph" = some (.ref C)) (GI : FnOk P w K mg base CX0 1 fI fdI ["self"] (spInit P w C)) (bI : Binds K fdI ["self"] [])
    (GB : FnOk P w K mg base CX0 1 fB fdB ["script"] (spBag K)) (mB : mg "_law_bag" = some (.ref fB)) (kB : PySem.W.keepIn K (.ref fB) = true) (bB : Binds K fdB ["script"] [])
    (GTa : FnOk P w K mg base CX0 1 fTa fdTa ["bag", "many"] spTake) (mTa : mg "_law_take" = some (.ref fTa)) (kTa : PySem.W.keepIn K (.ref fTa) = true) (bTa : Binds K fdTa ["bag", "many"] [])
    (GSo : FnOk P w K mg base CX0 2 fSo fdSo ["bag", "things"] (spSome K)) (mSo : mg "_law_some" = some (.ref fSo)) (kSo : PySem.W.keepIn K (.ref fSo) = true) (bSo : Binds K fdSo ["bag", "things"] [])
    (GRo : FnOk P w K mg base CX0 3 fRo fdRo ["bag", "many"] spRows) (mRo : mg "_law_rows" = some (.ref fRo)) (kRo : PySem.W.keepIn K (.ref fRo) = true) (bRo : Binds K fdRo ["bag", "many"] [])
    (GTo : FnG P w K mg base CX0 6 fTo fdTo ["graph", "rows", "seen", "nodes"] (spTold P w K C)) (mTo : mg "_law_are_told" = some (.ref fTo)) (kTo : PySem.W.keepIn K (.ref fTo) = true) (bTo : Binds K fdTo ["graph", "rows", "seen", "nodes"] [])
    (GLe : FnOk P w K mg base (L2.CX P w) 4 fLe fdLe ["self", "key"] (spLetter P w C CT)) (bLe : Binds K fdLe ["self", "key"] []) (mLe : Meth K C "letter" fLe)
    (GNo : FnOk P w K mg base (L2.CX P w) 4 fNo fdNo ["self", "op", "parts"] (spNode P w C CT CN)) (bNo : Binds K fdNo ["self", "op", "parts"] []) (mNo : Meth K C "node" fNo) :
    FnG P w K mg base CX0 7 f fd ["script"] (spLaw K) := by
  refine okG F scLaw (fun vs H Q E h => ?_) (fun cdv A outer s H vs Q E hgd hr h => ?_)
  · obtain ⟨a, ns, rfl, _⟩ := h
    rfl
  · obtain ⟨a, ns, rfl, hS, hl, k⟩ := h
    have nd := scLaw.nd
    have hu1 := hu_of hr
    refine ⟨_, (pss_cons (ps_set (i := 1) nd rfl (Or.inr rfl) (pe_call (E := E0) GB (hr.mono (by decide)) rfl mB kB bB .nil pass0 (pa_cons (pv 0) pa_nil))) (pss_cons (ps_set (i := 2) nd rfl (Or.inr rfl) (pe_call (E := E0) GRo (hr.mono (by decide)) rfl mRo kRo bRo .nil pass0 (pa_cons (pv 1) (pa_cons (pe_call (E := E0) GSo (hr.mono (by decide)) rfl mSo kSo bSo .nil pass0 (pa_cons (pv 1) (pa_cons (pe_lst (pa_cons pe_int (pa_cons pe_int (pa_cons pe_int (pa_cons pe_int (pa_cons pe_int pa_nil)))))) pa_nil))) pa_nil)))) (Evl.pss_cut (ps_if (pt_cmpR op_eq (pe_call (E := E0) GTa (hr.mono (by decide)) rfl mTa kTa bTa .nil pass0 (pa_cons (pv 1) (pa_cons pe_int pa_nil))) pe_int (nomark _)) (pss_one (ps_set (i := 2) nd rfl (Or.inr rfl) (pe_op op_cat (pv 2) (pe_lc (own := [("turn", 3)]) (g := gName 3) (tt := tYes) rfl nd (pi_range1 rfl T8.range (pa_cons (pe_op op_sub pe_int (pe_callB c_len (by rfl) T8.len PySem.boot_len (pa_cons (pv 2) pa_nil))) pa_nil)) (blkOk_by (N := ["script", "bag", "rows", "turn", "graph", "told", "at", "row", "seen", "k", "nodes"]) (sc := defScope sLaw) (by decide +kernel)) (fun _ _ _ _ _ => pg_name (i := 3) nd rfl (Or.inl rfl)) (fun _ _ _ _ _ => pts_nil) (fun _ _ _ _ _ => (pe_tup (pa_cons pe_str (pa_cons pe_str (pa_cons (pe_tup (pa_cons (pe_op op_add (pe_op op_sub (pe_callB (c_lenK (K := K) rfl) (by rfl) T8.len PySem.boot_len (pa_cons (pv 2) pa_nil)) pe_int) (pv 3)) pa_nil)) pa_nil))))))))) pss_nil) (pss_cons (ps_par (i := 4) (j := 5) rfl nd rfl rfl (by decide) rfl rfl (pa_cons (pe_make0 MG GI (hr.mono (by decide)) rfl mG bI .nil pass0) (pa_cons (pe_lst pa_nil) pa_nil)) rfl) (Evl.pss_cut (ps_for PassesOwn.never rfl (pi_enum rfl T8.enumerate (pa_cons (pv 2) pa_nil)) (pg_tup rfl (pgs_cons (pg_name (i := 6) nd rfl (Or.inl rfl)) (pgs_cons (pg_name (i := 7) nd rfl (Or.inl rfl)) pgs_nil))) (Evl.pss_cut (ps_if (PW.pt (pw_and (pt_cmpR op_eq (pv 6) (pe_op op_fdiv (pe_callB c_len (by rfl) T8.len PySem.boot_len (pa_cons (pv 2) pa_nil)) pe_int) (nomark _)) (pw_and (pt_chain op_lt op_lt pe_int (pv 6) pe_int) (pw_and1 (pt_not (pt_val (pe_callG (E := E0) GTo hgd (hr.mono (by decide)) rfl mTo kTo bTo pass0 (pa_cons (pv 4) (pa_cons (pe_slice sl_list (pv 2) po_none (po_some (pv 6))) (pa_cons (pe_tup (pa_cons pe_int (pa_cons (pe_call (E := E0) GTa (hr.mono (by decide)) rfl mTa kTa bTa .nil pass0 (pa_cons (pv 1) (pa_cons (pv 6) pa_nil))) pa_nil))) (pa_cons (pe_listRg rfl rfl T8.list (prg_1 rfl T8.range (pv 6))) pa_nil))))))))))) (pss_one (ps_ret pe_bl)) pss_nil) (pss_one (ps_expr (pe_bm PySem.F.plainAttrs_list PySem.F.slot_list_append PySem.F.type_list_append mt_append (pv 5) (pa_cons (pe_ifExp (pt_cmpR op_eq (pe_ix ix_tup (pv 7) pe_int (fun _ _ => rfl)) pe_str (nomark _)) (pe_meth (E := E0) (pv 4) T.cl mLe GLe (hr.mono (by decide)) bLe .nil (passes_call LamX.takes0 fun _ _ _ _ h => h) (pa_cons (pe_ix ix_tup (pv 7) pe_int (fun _ _ => rfl)) pa_nil)) (pe_meth (E := E0) (pv 4) T.cl mNo GNo (hr.mono (by decide)) bNo .nil (passes_call LamX.takes0 fun _ _ _ _ h => h) (pa_cons (pe_ix ix_tup (pv 7) pe_int (fun _ _ => rfl)) (pa_cons (pe_ix ix_tup (pv 7) pe_int (fun _ _ => rfl)) pa_nil)))) pa_nil)))))) (Evl.pss_cut (ps_if (pt_cmpR (op_neD hr.units) (pv 5) (pe_listRg rfl rfl T8.list (prg_1 rfl T8.range (pe_callB c_len (by rfl) T8.len PySem.boot_len (pa_cons (pv 2) pa_nil)))) (nomark _)) (pss_one (ps_ret pe_bl)) pss_nil) (Evl.pss_cut (ps_for PassesOwn.never rfl (pi_range1 rfl T8.range (pa_cons pe_int pa_nil)) (pg_name (i := 3) nd rfl (Or.inl rfl)) (Evl.pss_cut (ps_set (i := 8) nd rfl (Or.inl rfl) (pe_callTy call_tuple_of (by rfl) T8.tuple (by decide +kernel) (pa_cons (pe_lc (own := [("k", 9)]) (g := gName 9) (tt := tYes) rfl nd (pi_range1 rfl T8.range (pa_cons (pe_call (E := E0) GSo (hr.mono (by decide)) rfl mSo kSo bSo .nil pass0 (pa_cons (pv 1) (pa_cons (pe_lst (pa_cons pe_int (pa_cons pe_int (pa_cons pe_int (pa_cons pe_int (pa_cons pe_int pa_nil)))))) pa_nil))) pa_nil)) (blkOk_by (N := ["script", "bag", "rows", "turn", "graph", "told", "at", "row", "seen", "k", "nodes"]) (sc := defScope sLaw) (by decide +kernel)) (fun _ _ _ _ _ => pg_name (i := 9) nd rfl (Or.inl rfl)) (fun _ _ _ _ _ => pts_nil) (fun _ _ _ _ _ => (pe_call (E := E0) GTa (hr.mono (by decide)) rfl mTa kTa bTa .nil pass0 (pa_cons (pv 1) (pa_cons (pe_callB (c_lenK (K := K) rfl) (by rfl) T8.len PySem.boot_len (pa_cons (pv 2) pa_nil)) pa_nil))))) pa_nil))) (Evl.pss_cut (ps_set (i := 8) nd rfl (Or.inl rfl) (pe_ifExp (pt_cmpR op_eq (pe_call (E := E0) GTa (hr.mono (by decide)) rfl mTa kTa bTa .nil pass0 (pa_cons (pv 1) (pa_cons pe_int pa_nil))) pe_int (nomark _)) (pe_op op_catA (pv 8) (pe_slice sl_tupA (pv 8) po_none (po_some pe_int))) (pv 8))) (pss_cons (ps_set (i := 10) nd rfl (Or.inl rfl) (pe_op op_cat (pe_slice sl_list (pe_listRg rfl rfl T8.list (prg_1 rfl T8.range (pe_callB c_len (by rfl) T8.len PySem.boot_len (pa_cons (pv 2) pa_nil)))) po_none (po_some pe_int)) (pe_lst (pa_cons (pe_op op_sub (pe_callB c_len (by rfl) T8.len PySem.boot_len (pa_cons (pv 2) pa_nil)) pe_int) pa_nil)))) (pss_one (ps_if (pt_not (pt_val (pe_callG (E := E0) GTo hgd (hr.mono (by decide)) rfl mTo kTo bTo pass0 (pa_cons (pv 4) (pa_cons (pv 2) (pa_cons (pv 8) (pa_cons (pv 10) pa_nil))))))) (pss_one (ps_ret pe_bl)) pss_nil)))))) (pss_one (ps_ret pe_bl))))))))), ?_⟩
    walk_at "rs rx"
    refine ⟨a, ns, rfl, hS, hl, fun b c H1 hb0 hc0 B1 f1 => ?_⟩
    clear hS f1 hb0 hc0
    walk_at "rs rx"
    rename_i q0 hq0
    have hq0b : q0 ≠ b := by
      obtain ⟨ys, h⟩ := B1.lst
      exact (ne_of_none h hq0).symm
    refine ⟨b, c, q0, _, rfl, List.cons_ne_nil _ _, by show 5 < 1000000; decide, hq0b, .inl (SqL.of upd_same), B1.frame (Fm.new hq0 : Fm [] H1 _) List.not_mem_nil List.not_mem_nil, fun m H2 hm B2 f2 => ?_⟩
    obtain ⟨many, rfl, hm1, hm2⟩ : ∃ many : Nat, m = .int (many : Int) ∧ 1 ≤ many ∧ many ≤ 30 := by
      simp only [List.mem_cons, List.not_mem_nil, or_false] at hm
      rcases hm with rfl | rfl | rfl | rfl | rfl
      · exact ⟨12, rfl, by decide, by decide⟩
      · exact ⟨6, rfl, by decide, by decide⟩
      · exact ⟨26, rfl, by decide, by decide⟩
      · exact ⟨1, rfl, by decide, by decide⟩
      · exact ⟨18, rfl, by decide, by decide⟩
    clear f2 B1 hq0 hq0b hm
    walk_at "rs rx"
    refine ⟨b, c, many, rfl, hm1, hm2, B2, fun rp L rs H3 hrp e3 nk3 hrow hnd hL1 hLm B3 f3 => ?_⟩
    have hrb : rp ≠ b := by
      obtain ⟨ys, h⟩ := B2.lst
      exact (ne_of_none h hrp).symm
    clear f3 B2 hrp
    walk_at "rs rx"
    refine w_cut (M := fun σ H' => ∃ (rp : Addr) (L : List NestedKey) (rs : List V), σ = [some (.ref a), some (.ref b), some (.ref rp), none, none, none, none, none, none, none, none] ∧ H' rp = some (.lst rs) ∧ NKs H' L rs ∧ RowsAt L ∧ RowsOk L ∧ L.Nodup ∧ 1 ≤ L.length ∧ L.length ≤ 2999 ∧ Bag H' b c ∧ rp ≠ b) ?_ ?_
    · walk_at "rs rx"
      refine ⟨b, c, 24, rfl, by decide, by decide, B3, fun u H4 u0 u1 B4 f4 => ?_⟩
      have e4 : H4 rp = some (.lst rs) := f4 _ _ e3 (not_in1 hrb)
      have nk4 : NKs H4 L rs := NKs.mono (B3.tup f4) _ _ nk3
      clear B3 f4 e3 nk3
      have ok0 := wrows_fine hrow (by omega)
      walk_at "rs rx"
      refine w_ite (fun hu => ?_) (fun hu => ?_)
      · walk_at "rs rx"
        have hT : (((2990 : Int) - (rs.length : Int)).toNat) = 2990 - L.length := by rw [← nk4.len]; omega
        refine ⟨(2990 : Int) - (rs.length : Int), rfl, by omega, by omega, fun D hD => ?_⟩
        have hrD : rp ≠ D := ne_of_none e4 hD
        have hbD : b ≠ D ∧ c ≠ D := by
          obtain ⟨ys, h⟩ := B4.lst
          obtain ⟨zs, h2⟩ := B4.lstc
          exact ⟨ne_of_none h hD, ne_of_none h2 hD⟩
        refine lc_it (walk_range (lo := 0) (n := ((2990 : Int) - (rs.length : Int)).toNat)) (fun t H' => ∃ refs : List V, H' D = some (.lst refs) ∧ NKs H' (chainL L.length t) refs ∧ H' rp = some (.lst rs) ∧ NKs H' L rs ∧ Bag H' b c)
          ⟨[], upd_same, .nil, (Fm.new hD : Fm [] H4 _) _ _ e4 List.not_mem_nil, NKs.mono (fun a xs e => (Fm.new hD : Fm [] H4 _) _ _ e List.not_mem_nil) _ _ nk4, B4.frame (Fm.new hD : Fm [] H4 _) List.not_mem_nil List.not_mem_nil⟩ (fun _ _ _ _ => trivial) ?_ ?_
        · rintro t x H5 H6 ht ⟨refs, eD, nkc, e5, nk5, B5⟩ ⟨rfl, rfl⟩
          refine w_name ⟨rfl, w_yes ?_⟩
          walk_at "rs rx"
          rename_i p1 hp1 p2 hp2
          have g6 : Fm [] H6 (upd (upd H6 p1 (.tup [.int ((rs.length : Int) - 1 + (0 + (t : Int)))])) p2 (.tup [.str "op", .str "k", .ref p1])) := (Fm.new hp1).thenNew hp2
          have e1 : upd (upd H6 p1 (.tup [.int ((rs.length : Int) - 1 + (0 + (t : Int)))])) p2 (.tup [.str "op", .str "k", .ref p1]) p1 = some (.tup [.int ((rs.length : Int) - 1 + (0 + (t : Int)))]) := by walk_at "rs hp"
          have nkp : NK (upd (upd H6 p1 (.tup [.int ((rs.length : Int) - 1 + (0 + (t : Int)))])) p2 (.tup [.str "op", .str "k", .ref p1])) (chainK L.length t) (.ref p2) := by
            unfold chainK
            rw [nk5.len]
            refine .tup upd_same (.cons (.text _) (.cons (.text _) (.cons (.tup e1 (.cons ?_ .nil)) .nil)))
            rw [Int.zero_add]
            exact .num _
          generalize upd (upd H6 p1 (.tup [.int ((rs.length : Int) - 1 + (0 + (t : Int)))])) p2 (.tup [.str "op", .str "k", .ref p1]) = H7 at g6 e1 nkp ⊢
          have eD7 := g6 _ _ eD List.not_mem_nil
          have keep : ∀ a xs, H7 a = some (.tup xs) → upd H7 D (.lst (refs ++ [.ref p2])) a = some (.tup xs) := fun a xs e => by
            rw [upd_ne (tup_ne_lst e eD7)]
            exact e
          have hrl := nkc.len
          rw [chainL_len] at hrl
          refine ⟨refs, eD7, by rw [sizeLine_eq]; omega, refs ++ [.ref p2], upd_same, ?_, by rw [upd_ne hrD]; exact g6 _ _ e5 List.not_mem_nil, NKs.mono keep _ _ (NKs.mono (fun a xs e => g6 _ _ e List.not_mem_nil) _ _ nk5), (B5.frame g6 List.not_mem_nil List.not_mem_nil).frame (Fm.put List.mem_cons_self : Fm [D] H7 _) (not_in1 hbD.1) (not_in1 hbD.2)⟩
          rw [chainL_succ]
          exact NKs.snoc (NK.mono keep _ _ nkp) (NKs.mono keep _ _ (NKs.mono (fun a xs e => g6 _ _ e List.not_mem_nil) _ _ nkc))
        · rintro H5 ⟨refs, eD, nkc, e5, nk5, B5⟩
          have hrl := nkc.len
          rw [chainL_len] at hrl
          refine w_cat e5 eD (by rw [sizeLine_eq, ← nk5.len]; omega) fun q hq => ?_
          have hqb : q ≠ b := by
            obtain ⟨ys, h⟩ := B5.lst
            exact (ne_of_none h hq).symm
          obtain ⟨r1, r2, r3⟩ := chain_fine hrow hnd hL1 (t := ((2990 : Int) - (rs.length : Int)).toNat) (by omega) (by omega)
          exact ⟨q, L ++ chainL L.length ((2990 : Int) - (rs.length : Int)).toNat, _, rfl, upd_same, NKs.append (NKs.mono (fun a xs e => (Fm.new hq : Fm [] H5 _) _ _ e List.not_mem_nil) _ _ nk5) (NKs.mono (fun a xs e => (Fm.new hq : Fm [] H5 _) _ _ e List.not_mem_nil) _ _ nkc), r1, r2, r3, by rw [List.length_append]; omega, by rw [List.length_append, chainL_len]; omega, B5.frame (Fm.new hq : Fm [] H5 _) List.not_mem_nil List.not_mem_nil, hqb⟩
      · walk_at "rs rx"
        exact ⟨rp, L, rs, rfl, e4, nk4, ok0.1, ok0.2, hnd, hL1, by omega, B4, hrb⟩
    · clear hrow hnd hL1 hLm hrb e3 nk3 B3
      rintro σ H4 ⟨rp, L, rs, rfl, e4, nk4, hR, hok, hnd, hL1, hLm, B4, hrb⟩
      refine w_seq (w_par ?_)
      refine w_cons (w_make (w_nil fun g dx hg hdx hdg => ?_))
      refine ⟨g, dx, rfl, upd_same, fun l d H5 hl5 hd5 G5 f5 => ⟨rfl, ?_⟩⟩
      have F45 := made_fm hg hdx f5
      obtain ⟨ysb, eb4⟩ := B4.lst
      obtain ⟨ysc, ec4⟩ := B4.lstc
      have hbl := made_ne hg hdx hl5 eb4
      have hcl := made_ne hg hdx hl5 ec4
      have hrl := made_ne hg hdx hl5 e4
      have B5 := B4.frame F45 List.not_mem_nil List.not_mem_nil
      have e5 := F45 _ _ e4 List.not_mem_nil
      have nk5 := NKs.mono (fun a xs e => F45 _ _ e List.not_mem_nil) _ _ nk4
      have eb5 := F45 _ _ eb4 List.not_mem_nil
      have ec5 := F45 _ _ ec4 List.not_mem_nil
      walk_at "rs rx"
      rename_i tl htl
      have n5 : Fm [] H5 (upd H5 tl (.lst [])) := Fm.new htl
      obtain ⟨vl, el5⟩ := G5.ls
      have D : Dj b c rp tl l d := ⟨hbl, hcl, hrl, (ne_of_none el5 htl).symm, hrb, (ne_of_none eb5 htl).symm, ne_of_none e5 htl, ne_of_none ec5 htl⟩
      have x0 : LSt P w C b c rp tl g l d (upd H5 tl (.lst [])) L rs 0 := ⟨B5.frame n5 List.not_mem_nil List.not_mem_nil, n5 _ _ e5 List.not_mem_nil, NKs.mono (fun a xs e => n5 _ _ e List.not_mem_nil) _ _ nk5, G5.same n5, upd_same⟩
      generalize upd H5 tl (.lst []) = H6 at x0 ⊢
      clear n5 htl el5 ec5 eb5 nk5 e5 B5 hrl hcl hbl ec4 eb4 F45 G5 f5 hl5 hd5 hg hdx B4 nk4 e4
      refine w_par2 ?_
      refine w_cut (M := fun σ H' => ∃ o6 o7, σ = [some (.ref a), some (.ref b), some (.ref rp), none, some (.ref g), some (.ref tl), o6, o7, none, none, none] ∧ LSt P w C b c rp tl g l d H' L rs L.length) ?_ ?_
      · refine w_forE ?_
        walk_at "rs rx"
        refine ⟨rp, rs, rfl, SqL.of x0.rows, for_it (walk_enum (xs := rs)) (fun i σ H' => ∃ o6 o7, σ = [some (.ref a), some (.ref b), some (.ref rp), none, some (.ref g), some (.ref tl), o6, o7, none, none, none] ∧ LSt P w C b c rp tl g l d H' L rs i)
          ⟨_, _, rfl, x0⟩ (fun i σ H' _ ⟨_, _, _, x⟩ => SqL.of x.rows) ?_ (fun σ H' ⟨o6, o7, e, x⟩ => ⟨o6, o7, e, by rw [x0.nks.len]; exact x⟩)⟩
        rintro i x σ H7 H8 hi ⟨o6, o7, rfl, x7⟩ ⟨ta, x, v, rfl, hta, rfl, hx, hv⟩
        cases hx
        have hv' : rs[i]? = some v := hv
        have hiL : i < L.length := by rw [x0.nks.len]; exact hi
        have hk : L[i]? = some L[i] := List.getElem?_eq_getElem hiL
        generalize L[i] = k0 at hk
        have x8 : LSt P w C b c rp tl g l d (upd H7 ta (.tup [.int (i : Int), v])) L rs i := x7.same (Fm.new hta)
        refine ⟨ta, _, rfl, SqT.of upd_same, rfl, _, _, rfl, w_name ⟨_, _, rfl, w_name ⟨rfl, ?_⟩⟩⟩
        generalize upd H7 ta (.tup [.int (i : Int), v]) = H8 at x8 ⊢
        clear hta x7
        refine w_cut (M := fun σ H' => σ = [some (.ref a), some (.ref b), some (.ref rp), none, some (.ref g), some (.ref tl), some (.int (i : Int)), some v, none, none, none] ∧ LSt P w C b c rp tl g l d H' L rs i) ?_ ?_
        · walk_at "rs rx"
          refine w_lenL (SqL.of x8.rows) ?_
          walk_at "rs rx"
          refine w_ite (fun hc => ?_) (fun hc => w_ifF rfl (w_next ⟨rfl, x8⟩))
          refine w_and (w_test (w_chain ?_))
          walk_at "rs rx"
          refine w_ite (fun h0 => ?_) (fun h0 => ?_)
          · walk_at "rs rx"
            refine w_ite (fun h40 => ?_) (fun h40 => ?_)
            · have er8 := x8.rows
              walk_at "rs rx"
              rename_i q hq
              refine ⟨b, c, (i : Int), rfl, h0, by omega, x8.bag.frame (Fm.new hq : Fm [] H8 _) List.not_mem_nil List.not_mem_nil, fun u H9 u0 u1 B9 f9 => ?_⟩
              have x9 : LSt P w C b c rp tl g l d H9 L rs i := (x8.same (Fm.new hq)).onB D f9 B9
              have hqb : q ≠ b := by
                obtain ⟨ys, h⟩ := x8.bag.lst
                exact (ne_of_none h hq).symm
              have eq9 : H9 q = some (.lst (cutV rs none (some (i : Int)))) := f9 _ _ upd_same (not_in1 hqb)
              clear hq f9 B9 hqb
              walk_at "rs rx"
              rename_i sn hsn
              refine w_lstRg (w_rg1 (w_var rfl ⟨_, rfl, RgOk.of_le (by decide) (by omega) (by decide) (by omega), fun np hnp => ?_⟩))
              walk_at "rs rx"
              have n9 : Fm [] H9 (upd (upd H9 sn (.tup [.int 0, .int u])) np (.lst (rgV 0 (i : Int)))) := (Fm.new hsn).thenNew hnp
              have x10 := x9.same n9
              have hcut : cutV rs none (some (i : Int)) = rs.take i := cutV_take (by omega)
              rw [hcut] at eq9
              have nk10 : NKs (upd (upd H9 sn (.tup [.int 0, .int u])) np (.lst (rgV 0 (i : Int)))) (L.take i) (rs.take i) := x10.nks.take i
              have hpos : 0 < i := by omega
              refine ⟨g, q, sn, np, l, d, L.take i, rs.take i, [0, u], List.range i, rfl, x10.gr, n9 _ _ eq9 List.not_mem_nil, nk10, by walk_at "rs hp", ?_, Nat.le_of_ble_eq_true rfl, ?_, fun k hk => hok k (List.mem_of_mem_take hk), ?_, ?_, fun H11 f11 => ?_⟩
              · intro s hs
                rw [List.length_take, Nat.min_eq_left (Nat.le_of_lt hiL)]
                simp only [List.mem_cons, List.not_mem_nil, or_false] at hs
                rcases hs with rfl | rfl <;> omega
              · intro j k hj
                have hjl := (List.getElem?_eq_some_iff.mp hj).1
                rw [List.length_take] at hjl
                rw [List.getElem?_take_of_lt (by omega)] at hj
                exact hR j k hj
              · rw [upd_same, rg_nats]
              · intro n hn
                rw [List.length_take, Nat.min_eq_left (Nat.le_of_lt hiL)]
                exact List.mem_range.mp hn
              · walk_at "rs rx"
                exact ⟨rfl, x10.same f11⟩
            · walk_at "rs rx"
              exact ⟨rfl, x8⟩
          · walk_at "rs rx"
            exact ⟨rfl, x8⟩
        · rintro σ H9 ⟨rfl, x9⟩
          obtain ⟨v0, hv0, nk0⟩ := x9.nks.get hk
          rw [hv'] at hv0
          cases hv0
          have et9 := x9.told
          have G9 := x9.gr
          obtain ⟨dx9, vs9, hg9, _⟩ := id G9
          have nLe : (gf l d).lookup ("letter" : Str) = none := gf_no _ _ (by decide +kernel) (by decide +kernel)
          have nNo : (gf l d).lookup ("node" : Str) = none := gf_no _ _ (by decide +kernel) (by decide +kernel)
          have hnotin : k0 ∉ L.take i := fun z => by
            obtain ⟨j, hj⟩ := List.getElem?_of_mem z
            have hjl := (List.getElem?_eq_some_iff.mp hj).1
            rw [List.length_take] at hjl
            rw [List.getElem?_take_of_lt (by omega)] at hj
            obtain ⟨h3, h4⟩ := List.getElem?_eq_some_iff.mp hj
            obtain ⟨h5, h6⟩ := List.getElem?_eq_some_iff.mp hk
            have := List.pairwise_iff_getElem.mp hnd j i h3 h5 (by omega)
            exact this (h4.trans h6.symm)
          have htl : (L.take i).length = i := by rw [List.length_take]; omega
          have tk : L.take i ++ [k0] = L.take (i + 1) := by rw [List.take_succ, hk]; rfl
          have hdeep := (hok k0 (List.mem_of_getElem? hk)).2
          obtain ⟨kb, rfl⟩ | ⟨o, ns', rfl, h10, hb10⟩ := hR i k0 hk
          · cases nk0 with
            | tup er rr =>
              cases rr with
              | cons r1 r2 =>
                cases r1
                cases r2 with
                | cons r2 r3 =>
                  cases r3
                  walk_at "rs rx"
                  have hd7 : kb.depth ≤ 7 := by
                    have h : max 0 (max kb.depth 0) + 1 ≤ 8 := hdeep
                    omega
                  refine ⟨g, l, d, L.take i, kb, _, rfl, G9, r2, hd7, fun j H10 hj => absurd (List.mem_of_getElem? hj) hnotin, fun _ _ H10 G10 f10 => ?_, fun _ hn => absurd (by omega) hn⟩
                  have y := x9.onAsk D f10 tk G10
                  rw [htl]
                  refine w_nil (w_append y.2.2.2.2 (by rw [List.length_map, ints_len, sizeLine_eq]; omega) ?_)
                  exact ⟨_, _, rfl, LSt.onTold D y⟩
          · cases nk0 with
            | tup er rr =>
              cases rr with
              | cons r1 r2 =>
                cases r1
                cases r2 with
                | cons r2 r3 =>
                  cases r2
                  cases r3 with
                  | cons r3 r4 =>
                    cases r4
                    cases r3 with
                    | tup ep rp' =>
                      have ex := nums_vals rp'
                      subst ex
                      walk_at "rs rx"
                      refine ⟨g, l, d, _, L.take i, o, ns', rfl, G9, ep, fun ⟨n, hn, hb⟩ => absurd (hb10 n hn) (by omega), fun _ => ⟨fun j H10 hj => absurd (List.mem_of_getElem? hj) hnotin, fun _ _ H10 G10 f10 => ?_, fun _ hn => absurd (by omega) hn⟩⟩
                      have y := x9.onAsk D f10 tk G10
                      rw [htl]
                      refine w_nil (w_append y.2.2.2.2 (by rw [List.length_map, ints_len, sizeLine_eq]; omega) ?_)
                      exact ⟨_, _, rfl, LSt.onTold D y⟩
      · rintro σ H7 ⟨o6, o7, rfl, x7⟩
        have ht7 := x7.told
        have hr7 := x7.rows
        refine w_cut (M := fun σ H' => ∃ o3 o8 o10, σ = [some (.ref a), some (.ref b), some (.ref rp), o3, some (.ref g), some (.ref tl), o6, o7, o8, none, o10] ∧ LSt P w C b c rp tl g l d H' L rs L.length) ?_ ?_
        · walk_at "rs rx"
          refine w_lstRg (w_rg1 ?_)
          walk_at "rs rx"
          refine ⟨RgOk.of_le (by decide) (by rw [← x7.nks.len]; omega) (by decide) (by omega), fun q hq => ?_⟩
          rw [rg_nats, ← x7.nks.len, ← upTo_nats]
          have gd : Good (.list ((upTo L.length).map .int)) := (Good.ints (fun p hp => by
            obtain ⟨j, hj, rfl⟩ := List.mem_map.mp hp
            have := List.mem_range.mp hj
            omega) (by rw [ints_len]; omega)).2
          refine ⟨.list ((upTo L.length).map .int), .list ((upTo L.length).map .int), .lst (SqL.of ((Fm.new hq : Fm [] H7 _) _ _ ht7 List.not_mem_nil)) (dp_ints _), .lst (SqL.of upd_same) (dp_ints _), gd.shaped, gd.shaped, ?_⟩
          rw [gd.eqv]
          walk_at "rs rx"
          exact ⟨_, _, _, rfl, x7.same (Fm.new hq)⟩
        · clear ht7 hr7 x7
          rintro σ H7 ⟨o3, o8, o10, rfl, x7⟩
          refine w_cut (M := fun σ H' => ∃ o3 o8 o10, σ = [some (.ref a), some (.ref b), some (.ref rp), o3, some (.ref g), some (.ref tl), o6, o7, o8, none, o10] ∧ LSt P w C b c rp tl g l d H' L rs L.length) ?_ ?_
          · walk_at "rs rx"
            refine ⟨(4 : Int), rfl, by decide, by decide, for_it (walk_range (lo := 0) (n := (4 : Int).toNat)) (fun i σ H' => ∃ o3 o8 o10, σ = [some (.ref a), some (.ref b), some (.ref rp), o3, some (.ref g), some (.ref tl), o6, o7, o8, none, o10] ∧ LSt P w C b c rp tl g l d H' L rs L.length)
              ⟨_, _, _, rfl, x7⟩ (fun _ _ _ _ _ => trivial) ?_ (fun _ _ h => h)⟩
            clear x7 o3 o8 o10
            rintro i x σ H7 H8 hi ⟨o3, o8, o10, rfl, x7⟩ ⟨rfl, rfl⟩
            refine w_name ?_
            refine w_cut (M := fun σ H' => ∃ (sn : Addr) (seen : List Int), σ = [some (.ref a), some (.ref b), some (.ref rp), some (.int (0 + (i : Int))), some (.ref g), some (.ref tl), o6, o7, some (.ref sn), none, o10] ∧ H' sn = some (.tup (seen.map V.int)) ∧ seen.length ≤ 5 ∧ (∀ s ∈ seen, 0 ≤ s ∧ s < (L.length : Int)) ∧ LSt P w C b c rp tl g l d H' L rs L.length) ?_ ?_
            · walk_at "rs rx"
              rename_i q0 hq0
              have hq0b : q0 ≠ b := by
                obtain ⟨ys, h⟩ := x7.bag.lst
                exact (ne_of_none h hq0).symm
              have x8 := x7.same (Fm.new hq0 : Fm [] H8 (upd H8 q0 (.lst [.int 2, .int 1, .int 3, .int 0, .int 5])))
              refine ⟨b, c, q0, _, rfl, List.cons_ne_nil _ _, by show 5 < 1000000; decide, hq0b, .inl (SqL.of upd_same), x8.bag, fun m H9 hm B9 f9 => ?_⟩
              obtain ⟨many, rfl, hm5⟩ : ∃ many : Nat, m = .int (many : Int) ∧ many ≤ 5 := by
                simp only [List.mem_cons, List.not_mem_nil, or_false] at hm
                rcases hm with rfl | rfl | rfl | rfl | rfl
                · exact ⟨2, rfl, by decide⟩
                · exact ⟨1, rfl, by decide⟩
                · exact ⟨3, rfl, by decide⟩
                · exact ⟨0, rfl, by decide⟩
                · exact ⟨5, rfl, by decide⟩
              have x9 := x8.onB D f9 B9
              clear x8 hq0 hq0b f9 B9 hm x7
              walk_at "rs rx"
              refine ⟨(many : Int), rfl, by omega, by omega, fun Dl hD => ?_⟩
              obtain ⟨ysb, hyb⟩ := x9.bag.lst
              have hDb : Dl ≠ b := (ne_of_none hyb hD).symm
              obtain ⟨ysc, hyc⟩ := x9.bag.lstc
              have hcD : c ≠ Dl := ne_of_none hyc hD
              refine lc_it (walk_range (lo := 0) (n := (many : Int).toNat)) (fun t H' => ∃ ss : List Int, ss.length = t ∧ (∀ s ∈ ss, 0 ≤ s ∧ s < (L.length : Int)) ∧ H' Dl = some (.lst (ss.map V.int)) ∧ Fm [b] H9 H' ∧ Bag H' b c)
                ⟨[], rfl, fun s hs => (nomatch hs), upd_same, Fm.new hD, x9.bag.frame (Fm.new hD : Fm [] H9 _) List.not_mem_nil List.not_mem_nil⟩ (fun _ _ _ _ => trivial) ?_ ?_
              · rintro t x HA HB ht ⟨ss, hsl, hss, eD, fA, BA⟩ ⟨rfl, rfl⟩
                have hrA := (x9.onB D fA BA).rows
                refine w_name ⟨rfl, w_yes ?_⟩
                walk_at "rs rx"
                refine ⟨b, c, (rs.length : Int), rfl, by rw [← x9.nks.len]; omega, by rw [← x9.nks.len]; omega, BA, fun u HC u0 u1 BC fC => ?_⟩
                rw [← x9.nks.len] at u1
                have eC := fC _ _ eD (not_in1 hDb)
                exact ⟨_, eC, by rw [List.length_map, sizeLine_eq]; omega, ss ++ [u], by rw [List.length_append, hsl]; rfl, fun s hs => (List.mem_append.mp hs).elim (hss s) (fun h => by
                  rw [List.mem_singleton] at h
                  omega), by rw [upd_same, List.map_append]; rfl, (fA.trans fC).thenOwn hD, BC.frame (Fm.put List.mem_cons_self : Fm [Dl] HC _) (not_in1 hDb.symm) (not_in1 hcD)⟩
              · rintro HA ⟨ss, hsl, hss, eD, fA, BA⟩
                have xA := x9.onB D fA BA
                walk_at "rs rx"
                refine ⟨Dl, _, rfl, .inl ⟨SqL.of eD, fun t1 ht1 => ?_⟩⟩
                walk_at "rs rx"
                exact ⟨t1, ss, rfl, upd_same, by omega, hss, xA.same (Fm.new ht1)⟩
            · rintro σ H9 ⟨sn, seen, rfl, esn, hsl, hse, x9⟩
              refine w_cut (M := fun σ H' => ∃ (sn : Addr) (seen : List Int), σ = [some (.ref a), some (.ref b), some (.ref rp), some (.int (0 + (i : Int))), some (.ref g), some (.ref tl), o6, o7, some (.ref sn), none, o10] ∧ H' sn = some (.tup (seen.map V.int)) ∧ seen.length ≤ 10 ∧ (∀ s ∈ seen, 0 ≤ s ∧ s < (L.length : Int)) ∧ LSt P w C b c rp tl g l d H' L rs L.length) ?_ ?_
              · walk_at "rs rx"
                refine ⟨b, c, 4, rfl, by decide, by decide, x9.bag, fun u H10 u0 u1 B10 f10 => ?_⟩
                have x10 := x9.onB D f10 B10
                have es10 := x9.bag.tup f10 _ _ esn
                walk_at "rs rx"
                refine w_ite (fun hu => ?_) (fun hu => ?_)
                · walk_at "rs rx"
                  have hxl : (seen.map V.int).length = seen.length := List.length_map _
                  have fin : ∀ (H11 : Hp) (sn' : Addr) (seen' : List Int), H11 sn' = some (.tup (seen'.map V.int)) → seen'.length ≤ 10 → (∀ s ∈ seen', s ∈ seen) → Fm [] H10 H11 → ∃ (sn : Addr) (seen : List Int), [some (V.ref a), some (V.ref b), some (V.ref rp), some (V.int (0 + (i : Int))), some (V.ref g), some (V.ref tl), o6, o7, some (V.ref sn'), none, o10] = [some (V.ref a), some (V.ref b), some (V.ref rp), some (V.int (0 + (i : Int))), some (V.ref g), some (V.ref tl), o6, o7, some (V.ref sn), none, o10] ∧ H11 sn = some (.tup (seen.map V.int)) ∧ seen.length ≤ 10 ∧ (∀ s ∈ seen, 0 ≤ s ∧ s < (L.length : Int)) ∧ LSt P w C b c rp tl g l d H11 L rs L.length :=
                    fun H11 sn' seen' e1 e2 e3 f => ⟨sn', seen', rfl, e1, e2, fun s hs => hse s (e3 s hs), x10.same f⟩
                  refine ⟨sn, seen.map V.int, rfl, SqT.of es10, fun hfull => ?_, fun hfull p hp => ?_⟩
                  · refine ⟨sn, sn, _, _, rfl, rfl, SqT.of es10, SqT.of es10, by rw [sizeLine_eq]; omega, fun hn => ?_, fun _ hn => ?_, fun _ _ q hq => ?_⟩
                    · exact fin _ sn seen es10 (by omega) (fun s hs => hs) (Fm.refl _ _)
                    · exact fin _ sn seen es10 (by omega) (fun s hs => hs) (Fm.refl _ _)
                    · exact fin _ q (seen ++ seen) (by rw [upd_same, List.map_append]) (by rw [List.length_append]; omega) (fun s hs => (List.mem_append.mp hs).elim id id) (Fm.new hq)
                  · have ec : cutV (seen.map V.int) none (some 1) = (seen.take 1).map V.int := by
                      unfold cutV
                      rw [HT.sIx_none, show (1 : Int) = ((1 : Nat) : Int) from rfl, HT.sIx_nat, Nat.sub_zero, List.drop_zero, hxl, List.map_take]
                      rw [List.take_eq_take_iff]
                      rw [hxl]
                      omega
                    rw [ec]
                    have g11 : Fm [] H10 (upd H10 p (.tup ((seen.take 1).map V.int))) := Fm.new hp
                    refine ⟨sn, p, _, _, rfl, rfl, SqT.of (g11 _ _ es10 List.not_mem_nil), SqT.of upd_same, by rw [sizeLine_eq, List.length_map, List.length_map, List.length_take]; omega, fun hn => ?_, fun _ hn => ?_, fun _ _ q hq => ?_⟩
                    · exact fin _ p (seen.take 1) upd_same (by rw [List.length_take]; omega) (fun s hs => List.mem_of_mem_take hs) g11
                    · exact fin _ sn seen (g11 _ _ es10 List.not_mem_nil) (by omega) (fun s hs => hs) g11
                    · exact fin _ q (seen ++ seen.take 1) (by rw [upd_same, List.map_append]) (by rw [List.length_append, List.length_take]; omega) (fun s hs => (List.mem_append.mp hs).elim id List.mem_of_mem_take) (g11.thenNew hq)
                · walk_at "rs rx"
                  exact ⟨sn, seen, rfl, es10, by omega, hse, x10⟩
              · clear esn hsl hse x9
                rintro σ H10 ⟨sn, seen, rfl, esn, hsl, hse, x10⟩
                have hr10 := x10.rows
                refine w_seq (w_asg ?_)
                walk_at "rs rx"
                refine w_lstRg (w_rg1 ?_)
                walk_at "rs rx"
                refine ⟨RgOk.of_le (by decide) (by rw [← x10.nks.len]; omega) (by decide) (by omega), fun q1 hq1 => ?_⟩
                rw [rg_nats, ← x10.nks.len]
                walk_at "rs rx"
                rename_i qc hqc q2 hq2
                have n11 : Fm [] H10 (upd (upd (upd H10 q1 (.lst ((List.range L.length).map fun j : Nat => V.int (j : Int)))) qc (.lst (cutV ((List.range L.length).map fun j : Nat => V.int (j : Int)) none (some 26)))) q2 (.lst [.int ((rs.length : Int) - 1)])) := ((Fm.new hq1).thenNew hqc).thenNew hq2
                have ec : upd (upd (upd H10 q1 (.lst ((List.range L.length).map fun j : Nat => V.int (j : Int)))) qc (.lst (cutV ((List.range L.length).map fun j : Nat => V.int (j : Int)) none (some 26)))) q2 (.lst [.int ((rs.length : Int) - 1)]) qc = some (.lst (cutV ((List.range L.length).map fun j : Nat => V.int (j : Int)) none (some 26))) := by walk_at "rs hp"
                have e2 : upd (upd (upd H10 q1 (.lst ((List.range L.length).map fun j : Nat => V.int (j : Int)))) qc (.lst (cutV ((List.range L.length).map fun j : Nat => V.int (j : Int)) none (some 26)))) q2 (.lst [.int ((rs.length : Int) - 1)]) q2 = some (.lst [.int ((rs.length : Int) - 1)]) := upd_same
                have hcl := cutV_length ((List.range L.length).map fun j : Nat => V.int (j : Int)) none (some 26)
                rw [List.length_map, List.length_range] at hcl
                refine w_cat ec e2 (by rw [sizeLine_eq]; show _ + 1 ≤ _; omega) fun q3 hq3 => ?_
                have x11 := x10.same (n11.thenNew (o := .lst (cutV ((List.range L.length).map fun j : Nat => V.int (j : Int)) none (some 26) ++ [.int ((rs.length : Int) - 1)])) hq3)
                have e11 := (n11.thenNew (o := .lst (cutV ((List.range L.length).map fun j : Nat => V.int (j : Int)) none (some 26) ++ [.int ((rs.length : Int) - 1)])) hq3) _ _ esn List.not_mem_nil
                have hnodes : cutV ((List.range L.length).map fun j : Nat => V.int (j : Int)) none (some 26) ++ [.int ((rs.length : Int) - 1)] = ((List.range L.length).take 26 ++ [L.length - 1]).map fun j : Nat => V.int (j : Int) := by
                  rw [List.map_append, List.map_take, ← x10.nks.len]
                  have e1 : cutV ((List.range L.length).map fun j : Nat => V.int (j : Int)) none (some 26) = ((List.range L.length).map fun j : Nat => V.int (j : Int)).take 26 := by
                    unfold cutV
                    rw [HT.sIx_none, show (26 : Int) = ((26 : Nat) : Int) from rfl, HT.sIx_nat, Nat.sub_zero, List.drop_zero, List.take_eq_take_iff]
                    omega
                  rw [e1]
                  congr 1
                  show [V.int ((L.length : Int) - 1)] = [V.int ((L.length - 1 : Nat) : Int)]
                  rw [show ((L.length - 1 : Nat) : Int) = (L.length : Int) - 1 by omega]
                have eN : ∀ A : Hp, upd A q3 (.lst (cutV ((List.range L.length).map fun j : Nat => V.int (j : Int)) none (some 26) ++ [.int ((rs.length : Int) - 1)])) q3 = some (.lst (((List.range L.length).take 26 ++ [L.length - 1]).map fun j : Nat => V.int (j : Int))) := fun A => by rw [upd_same, hnodes]
                have eN' := eN (upd (upd (upd H10 q1 (.lst ((List.range L.length).map fun j : Nat => V.int (j : Int)))) qc (.lst (cutV ((List.range L.length).map fun j : Nat => V.int (j : Int)) none (some 26)))) q2 (.lst [.int ((rs.length : Int) - 1)]))
                clear eN hnodes ec e2 n11
                generalize upd (upd (upd (upd H10 q1 (.lst ((List.range L.length).map fun j : Nat => V.int (j : Int)))) qc (.lst (cutV ((List.range L.length).map fun j : Nat => V.int (j : Int)) none (some 26)))) q2 (.lst [.int ((rs.length : Int) - 1)])) q3 (.lst (cutV ((List.range L.length).map fun j : Nat => V.int (j : Int)) none (some 26) ++ [.int ((rs.length : Int) - 1)])) = H11 at x11 e11 eN' ⊢
                clear hq1 hqc hq2 hq3 hcl
                walk_at "rs rx"
                have G11 := x11.gr
                rw [List.take_length] at G11
                refine ⟨g, rp, sn, q3, l, d, L, rs, seen, (List.range L.length).take 26 ++ [L.length - 1], rfl, G11, x11.rows, x11.nks, e11, hse, by omega, hR, hok, eN', fun n hn => ?_, fun H12 f12 => ?_⟩
                · rcases List.mem_append.mp hn with h | h
                  · exact List.mem_range.mp (List.mem_of_mem_take h)
                  · rw [List.mem_singleton] at h
                    omega
                · walk_at "rs rx"
                  exact ⟨_, _, _, rfl, x11.same f12⟩
          · rintro σ H8 ⟨o3, o8, o10, rfl, x8⟩
            walk_at "rs rx"
            exact k _
end
end Rs

set_option Elab.async false
set_option linter.all false
set_option maxRecDepth 100000
set_option maxHeartbeats 4000000
/-! the facts of the written part, joined -/
namespace Rs
open PySem L2 PySem.Spec PyProof.Rows PySem.W PySem.HandSPX LamX
theorem all_mk {w : World} {K : PySem.W.Frag} {h : Heap} {mg : Str → Option Value} {fa C CT CN fT RE fMk fBu fWa fRe fB fTa fSo fA fRo fCl fRt fTd fLa fI fMa fNu fLe fNo fHd fIs fOp fPa : Addr} (X : K.In h) (G : h.Ns mainGlobals mg) (hfa : mg "law" = some (.ref fa))
    {odMk anMk odBu anBu odWa anWa odRe anRe odB anB odTa anTa odSo anSo odA anA odRo anRo odCl anCl odRt anRt odTd anTd odLa anLa odI anI odMa anMa odNu anNu odLe anLe odNo anNo odHd anHd odIs anIs odOp anOp odPa anPa odT anT cddT cldT ddT : Option Addr} {slMk slBu slWa slRe slB slTa slSo slA slRo slCl slRt slTd slLa slI slMa slNu slLe slNo slHd slIs slOp slPa slT ccsT cslT : Array (Option Value)} {ocMk kVMk dcMk pmMk ctMk cdMk ocBu kVBu dcBu pmBu ctBu cdBu ocWa kVWa dcWa pmWa ctWa cdWa ocRe kVRe dcRe pmRe ctRe cdRe ocB kVB dcB pmB ctB cdB ocTa kVTa dcTa pmTa ctTa cdTa ocSo kVSo dcSo pmSo ctSo cdSo ocA kVA dcA pmA ctA cdA ocRo kVRo dcRo pmRo ctRo cdRo ocCl kVCl dcCl pmCl ctCl cdCl ocRt kVRt dcRt pmRt ctRt cdRt ocTd kVTd dcTd pmTd ctTd cdTd ocLa kVLa dcLa pmLa ctLa cdLa ocI kVI dcI pmI ctI cdI ocMa kVMa dcMa pmMa ctMa cdMa ocNu kVNu dcNu pmNu ctNu cdNu ocLe kVLe dcLe pmLe ctLe cdLe ocNo kVNo dcNo pmNo ctNo cdNo ocHd kVHd dcHd pmHd ctHd cdHd ocIs kVIs dcIs pmIs ctIs cdIs ocOp kVOp dcOp pmOp ctOp cdOp ocPa kVPa dcPa pmPa ctPa cdPa ocT dcT pmT ctT cclT clT : Value} {tM : Tok}
    {nmT qT fileT : Str} {NT cdaT ccT : Addr} {bsT subT : List Value} {snT : List Str} {abT : Bool} {colT : Option Bool} {m0 m1 m2 m3 m5 : Option Value} {vsT : Array Value} {tfT : Tok}
    (aMk : PySem.W.nsIn K mainGlobals "built_marks" = some (some (.ref fMk)))
    (lMk : K.lookup fMk = some ⟨ocMk, odMk, .func (PySem.W.fnOf "built_marks" "built_marks" (defArgs sMarks) (defBody sMarks) (defScope sMarks) .none kVMk dcMk pmMk anMk cdMk ctMk), slMk⟩)
    (c_Mk : PySem.W.codeIn K cdMk "built_marks" = true)
    (kMk : PySem.W.keepIn K (.ref fMk) = true)
    (aBu : PySem.W.nsIn K mainGlobals "built" = some (some (.ref fBu)))
    (lBu : K.lookup fBu = some ⟨ocBu, odBu, .func (PySem.W.fnOf "built" "built" (defArgs sBuilt) (defBody sBuilt) (defScope sBuilt) .none kVBu dcBu pmBu anBu cdBu ctBu), slBu⟩)
    (c_Bu : PySem.W.codeIn K cdBu "built" = true)
    (kBu : PySem.W.keepIn K (.ref fBu) = true)
    (aWa : PySem.W.nsIn K mainGlobals "wanted_nodes" = some (some (.ref fWa)))
    (lWa : K.lookup fWa = some ⟨ocWa, odWa, .func (PySem.W.fnOf "wanted_nodes" "wanted_nodes" (defArgs sWanted) (defBody sWanted) (defScope sWanted) .none kVWa dcWa pmWa anWa cdWa ctWa), slWa⟩)
    (c_Wa : PySem.W.codeIn K cdWa "wanted_nodes" = true)
    (kWa : PySem.W.keepIn K (.ref fWa) = true)
    (aRe : PySem.W.nsIn K mainGlobals "recipe_of" = some (some (.ref fRe)))
    (lRe : K.lookup fRe = some ⟨ocRe, odRe, .func (PySem.W.fnOf "recipe_of" "recipe_of" (defArgs sRecipe) (defBody sRecipe) (defScope sRecipe) .none kVRe dcRe pmRe anRe cdRe ctRe), slRe⟩)
    (c_Re : PySem.W.codeIn K cdRe "recipe_of" = true)
    (kRe : PySem.W.keepIn K (.ref fRe) = true)
    (aB : PySem.W.nsIn K mainGlobals "_law_bag" = some (some (.ref fB)))
    (lB : K.lookup fB = some ⟨ocB, odB, .func (PySem.W.fnOf "_law_bag" "_law_bag" (defArgs sBag) (defBody sBag) (defScope sBag) .none kVB dcB pmB anB cdB ctB), slB⟩)
    (c_B : PySem.W.codeIn K cdB "_law_bag" = true)
    (kB : PySem.W.keepIn K (.ref fB) = true)
    (aTa : PySem.W.nsIn K mainGlobals "_law_take" = some (some (.ref fTa)))
    (lTa : K.lookup fTa = some ⟨ocTa, odTa, .func (PySem.W.fnOf "_law_take" "_law_take" (defArgs sTake) (defBody sTake) (defScope sTake) .none kVTa dcTa pmTa anTa cdTa ctTa), slTa⟩)
    (c_Ta : PySem.W.codeIn K cdTa "_law_take" = true)
    (kTa : PySem.W.keepIn K (.ref fTa) = true)
    (aSo : PySem.W.nsIn K mainGlobals "_law_some" = some (some (.ref fSo)))
    (lSo : K.lookup fSo = some ⟨ocSo, odSo, .func (PySem.W.fnOf "_law_some" "_law_some" (defArgs sSome) (defBody sSome) (defScope sSome) .none kVSo dcSo pmSo anSo cdSo ctSo), slSo⟩)
    (c_So : PySem.W.codeIn K cdSo "_law_some" = true)
    (kSo : PySem.W.keepIn K (.ref fSo) = true)
    (aA : PySem.W.nsIn K mainGlobals "_law_alike" = some (some (.ref fA)))
    (lA : K.lookup fA = some ⟨ocA, odA, .func (PySem.W.fnOf "_law_alike" "_law_alike" (defArgs sAlike) (defBody sAlike) (defScope sAlike) .none kVA dcA pmA anA cdA ctA), slA⟩)
    (c_A : PySem.W.codeIn K cdA "_law_alike" = true)
    (kA : PySem.W.keepIn K (.ref fA) = true)
    (aRo : PySem.W.nsIn K mainGlobals "_law_rows" = some (some (.ref fRo)))
    (lRo : K.lookup fRo = some ⟨ocRo, odRo, .func (PySem.W.fnOf "_law_rows" "_law_rows" (defArgs sRows) (defBody sRows) (defScope sRows) .none kVRo dcRo pmRo anRo cdRo ctRo), slRo⟩)
    (c_Ro : PySem.W.codeIn K cdRo "_law_rows" = true)
    (kRo : PySem.W.keepIn K (.ref fRo) = true)
    (aCl : PySem.W.nsIn K mainGlobals "_law_closure" = some (some (.ref fCl)))
    (lCl : K.lookup fCl = some ⟨ocCl, odCl, .func (PySem.W.fnOf "_law_closure" "_law_closure" (defArgs sClo) (defBody sClo) (defScope sClo) .none kVCl dcCl pmCl anCl cdCl ctCl), slCl⟩)
    (c_Cl : PySem.W.codeIn K cdCl "_law_closure" = true)
    (kCl : PySem.W.keepIn K (.ref fCl) = true)
    (aRt : PySem.W.nsIn K mainGlobals "_law_is_recipe_to" = some (some (.ref fRt)))
    (lRt : K.lookup fRt = some ⟨ocRt, odRt, .func (PySem.W.fnOf "_law_is_recipe_to" "_law_is_recipe_to" (defArgs sTo) (defBody sTo) (defScope sTo) .none kVRt dcRt pmRt anRt cdRt ctRt), slRt⟩)
    (c_Rt : PySem.W.codeIn K cdRt "_law_is_recipe_to" = true)
    (kRt : PySem.W.keepIn K (.ref fRt) = true)
    (aTd : PySem.W.nsIn K mainGlobals "_law_are_told" = some (some (.ref fTd)))
    (lTd : K.lookup fTd = some ⟨ocTd, odTd, .func (PySem.W.fnOf "_law_are_told" "_law_are_told" (defArgs sTold) (defBody sTold) (defScope sTold) .none kVTd dcTd pmTd anTd cdTd ctTd), slTd⟩)
    (c_Td : PySem.W.codeIn K cdTd "_law_are_told" = true)
    (kTd : PySem.W.keepIn K (.ref fTd) = true)
    (aLa : PySem.W.nsIn K mainGlobals "law" = some (some (.ref fLa)))
    (lLa : K.lookup fLa = some ⟨ocLa, odLa, .func (PySem.W.fnOf "law" "law" (defArgs sLaw) (defBody sLaw) (defScope sLaw) .none kVLa dcLa pmLa anLa cdLa ctLa), slLa⟩)
    (c_La : PySem.W.codeIn K cdLa "law" = true)
    (kLa : PySem.W.keepIn K (.ref fLa) = true)
    (aC : PySem.W.nsIn K mainGlobals "Graph" = some (some (.ref C)))
    (aI : PySem.W.findIn K (.ref C) "__init__" = some (some (.ref fI)))
    (iI : PySem.W.isFn K (.ref fI) = true)
    (lI : K.lookup fI = some ⟨ocI, odI, .func (PySem.W.fnOf "__init__" "Graph.__init__" (defArgs (sG 0)) (defBody (sG 0)) (defScope (sG 0)) .none kVI dcI pmI anI cdI ctI), slI⟩)
    (c_I : PySem.W.codeIn K cdI "Graph.__init__" = true)
    (kI : PySem.W.keepIn K (.ref fI) = true)
    (aMa : PySem.W.findIn K (.ref C) "many" = some (some (.ref fMa)))
    (iMa : PySem.W.isFn K (.ref fMa) = true)
    (lMa : K.lookup fMa = some ⟨ocMa, odMa, .func (PySem.W.fnOf "many" "Graph.many" (defArgs (sG 1)) (defBody (sG 1)) (defScope (sG 1)) .none kVMa dcMa pmMa anMa cdMa ctMa), slMa⟩)
    (c_Ma : PySem.W.codeIn K cdMa "Graph.many" = true)
    (kMa : PySem.W.keepIn K (.ref fMa) = true)
    (aNu : PySem.W.findIn K (.ref C) "numbered" = some (some (.ref fNu)))
    (iNu : PySem.W.isFn K (.ref fNu) = true)
    (lNu : K.lookup fNu = some ⟨ocNu, odNu, .func (PySem.W.fnOf "numbered" "Graph.numbered" (defArgs (sG 2)) (defBody (sG 2)) (defScope (sG 2)) .none kVNu dcNu pmNu anNu cdNu ctNu), slNu⟩)
    (c_Nu : PySem.W.codeIn K cdNu "Graph.numbered" = true)
    (kNu : PySem.W.keepIn K (.ref fNu) = true)
    (aLe : PySem.W.findIn K (.ref C) "letter" = some (some (.ref fLe)))
    (iLe : PySem.W.isFn K (.ref fLe) = true)
    (lLe : K.lookup fLe = some ⟨ocLe, odLe, .func (PySem.W.fnOf "letter" "Graph.letter" (defArgs (sG 3)) (defBody (sG 3)) (defScope (sG 3)) .none kVLe dcLe pmLe anLe cdLe ctLe), slLe⟩)
    (c_Le : PySem.W.codeIn K cdLe "Graph.letter" = true)
    (kLe : PySem.W.keepIn K (.ref fLe) = true)
    (aNo : PySem.W.findIn K (.ref C) "node" = some (some (.ref fNo)))
    (iNo : PySem.W.isFn K (.ref fNo) = true)
    (lNo : K.lookup fNo = some ⟨ocNo, odNo, .func (PySem.W.fnOf "node" "Graph.node" (defArgs (sG 4)) (defBody (sG 4)) (defScope (sG 4)) .none kVNo dcNo pmNo anNo cdNo ctNo), slNo⟩)
    (c_No : PySem.W.codeIn K cdNo "Graph.node" = true)
    (kNo : PySem.W.keepIn K (.ref fNo) = true)
    (aHd : PySem.W.findIn K (.ref C) "head_of" = some (some (.ref fHd)))
    (iHd : PySem.W.isFn K (.ref fHd) = true)
    (lHd : K.lookup fHd = some ⟨ocHd, odHd, .func (PySem.W.fnOf "head_of" "Graph.head_of" (defArgs (sG 5)) (defBody (sG 5)) (defScope (sG 5)) .none kVHd dcHd pmHd anHd cdHd ctHd), slHd⟩)
    (c_Hd : PySem.W.codeIn K cdHd "Graph.head_of" = true)
    (kHd : PySem.W.keepIn K (.ref fHd) = true)
    (aIs : PySem.W.findIn K (.ref C) "is_letter" = some (some (.ref fIs)))
    (iIs : PySem.W.isFn K (.ref fIs) = true)
    (lIs : K.lookup fIs = some ⟨ocIs, odIs, .func (PySem.W.fnOf "is_letter" "Graph.is_letter" (defArgs (sG 6)) (defBody (sG 6)) (defScope (sG 6)) .none kVIs dcIs pmIs anIs cdIs ctIs), slIs⟩)
    (c_Is : PySem.W.codeIn K cdIs "Graph.is_letter" = true)
    (kIs : PySem.W.keepIn K (.ref fIs) = true)
    (aOp : PySem.W.findIn K (.ref C) "op_of" = some (some (.ref fOp)))
    (iOp : PySem.W.isFn K (.ref fOp) = true)
    (lOp : K.lookup fOp = some ⟨ocOp, odOp, .func (PySem.W.fnOf "op_of" "Graph.op_of" (defArgs (sG 8)) (defBody (sG 8)) (defScope (sG 8)) .none kVOp dcOp pmOp anOp cdOp ctOp), slOp⟩)
    (c_Op : PySem.W.codeIn K cdOp "Graph.op_of" = true)
    (kOp : PySem.W.keepIn K (.ref fOp) = true)
    (aPa : PySem.W.findIn K (.ref C) "parts_of" = some (some (.ref fPa)))
    (iPa : PySem.W.isFn K (.ref fPa) = true)
    (lPa : K.lookup fPa = some ⟨ocPa, odPa, .func (PySem.W.fnOf "parts_of" "Graph.parts_of" (defArgs (sG 9)) (defBody (sG 9)) (defScope (sG 9)) .none kVPa dcPa pmPa anPa cdPa ctPa), slPa⟩)
    (c_Pa : PySem.W.codeIn K cdPa "Graph.parts_of" = true)
    (kPa : PySem.W.keepIn K (.ref fPa) = true)
    (pg : PySem.W.plainGet K C Str.empty = true)
    (hd : PySem.W.hasDictIn K C = true)
    (po : PySem.W.plainOver K C = true)
    (sa : PySem.W.findIn K (.ref C) "__setattr__" = some (some (.builtin "object.__setattr__")))
    (mk : PySem.W.makesIn K C = true)
    (kc : PySem.W.keepIn K (.ref C) = true)
    (nH : PySem.W.findIn K (.ref C) "heads" = some none)
    (nK : PySem.W.findIn K (.ref C) "known_heads" = some none)
    (z_len : PySem.W.nsIn K mainGlobals "len" = some none)
    (z_tuple : PySem.W.nsIn K mainGlobals "tuple" = some none)
    (z_range : PySem.W.nsIn K mainGlobals "range" = some none)
    (z_enumerate : PySem.W.nsIn K mainGlobals "enumerate" = some none)
    (z_repr : PySem.W.nsIn K mainGlobals "repr" = some none)
    (z_int : PySem.W.nsIn K mainGlobals "int" = some none)
    (z_abs : PySem.W.nsIn K mainGlobals "abs" = some none)
    (z_list : PySem.W.nsIn K mainGlobals "list" = some none)
    (z_super : PySem.W.nsIn K mainGlobals "super" = some none)
    (z_all : PySem.W.nsIn K mainGlobals "all" = some none)
    (z_dict : PySem.W.nsIn K mainGlobals "dict" = some none)
    (z_isinstance : PySem.W.nsIn K mainGlobals "isinstance" = some none)
    (z_bool : PySem.W.nsIn K mainGlobals "bool" = some none)
    (z_sorted : PySem.W.nsIn K mainGlobals "sorted" = some none)
    (mo : PySem.W.nsIn K mainGlobals "MOST_NODES" = some (some (.int 3000 tM)))
    (aN : PySem.W.nsIn K mainGlobals "Nothing" = some (some (.ref CN)))
    (xN : PySem.W.excIn K CN [.type "ValueError", .type "Exception", .type "BaseException", .type "object"] "ValueError.__new__" = true)
    (kN : PySem.W.keepIn K (.ref CN) = true)
    (sN : PySem.W.subIn K (.ref CN) (.type "BaseException") = some true)
    (tN : PySem.W.typeIn K (.ref CN) = some (.type "type"))
    (aT : PySem.W.nsIn K mainGlobals "TooLarge" = some (some (.ref CT)))
    (xT : K.lookup CT = some (excClassObj nmT qT CT NT bsT [.ref RE, .type "ValueError", .type "Exception", .type "BaseException", .type "object"] true snT subT abT colT ddT m0 m1 m2 m3 m5 "ValueError.__new__"))
    (rT : refsVE [.ref RE, .type "ValueError", .type "Exception", .type "BaseException", .type "object"] = true)
    (gT : PySem.W.alongIn K "__init__" [.ref RE, .type "ValueError", .type "Exception", .type "BaseException", .type "object"] = some (some (.builtin "ValueError.__init__")))
    (saT : PySem.W.findIn K (.ref CT) "__setattr__" = some (some (.builtin "object.__setattr__")))
    (gaT : PySem.W.findIn K (.ref CT) "__getattribute__" = some (some (.builtin "BaseException.__getattribute__")))
    (ggT : PySem.W.findIn K (.ref CT) "__getattr__" = some none)
    (nWT : PySem.W.findIn K (.ref CT) "what" = some none)
    (nLT : PySem.W.findIn K (.ref CT) "limit" = some none)
    (iT : PySem.W.findIn K (.ref CT) "__init__" = some (some (.ref fT)))
    (tT : PySem.W.typeIn K (.ref fT) = some (.type "function"))
    (kT : PySem.W.keepIn K (.ref CT) = true)
    (eT : PySem.W.subIn K (.ref CT) (.type "BaseException") = some true)
    (vT : PySem.W.subIn K (.ref CT) (.type "ValueError") = some true)
    (yT : PySem.W.typeIn K (.ref CT) = some (.type "type"))
    (dT : PySem.W.hasDictIn K CT = true)
    (mT : mroIn K CT (.ref CT) = some true)
    (stT : PySem.W.nsIn K cStatics "thirdparty.any" = some none)
    (xTT : PySem.W.exmOne K (.ref CT) (.ref CT) = some true)
    (lT : K.lookup fT = some ⟨ocT, odT, .func (ksFn "__init__" "TooLarge.__init__" (defArgs sTL) (defBody sTL) (defScope sTL) .none .none dcT pmT anT (.ref cdaT) ctT ccT), slT⟩)
    (c_T : PySem.W.codeIn K (.ref cdaT) "TooLarge.__init__" = true)
    (lcT : K.lookup cdaT = some ⟨cclT, cddT, .fields vsT, ccsT⟩)
    (fiT : vsT[2]? = some (.str fileT tfT))
    (ffT : ((((PySem.Challenge.rw_runshown_k22_whole_what_is_built_of_seen).prog).main.file : Str) == fileT) = true)
    (lcc : K.lookup ccT = some ⟨clT, cldT, .cell (some (.ref CT)), cslT⟩)
    (tpT : (((PySem.Challenge.rw_runshown_k22_whole_what_is_built_of_seen).prog).main.scope.names.lookup ("super" : Str)).isSome = false)
    : ∃ fd : FuncData, (∀ (s : Shared) (u : Value), BindsTo s fd ⟨[u], []⟩ [("script", u)]) ∧ ∀ base : Heap, K.In base → base.Ns mainGlobals mg → FnG (PySem.Challenge.rw_runshown_k22_whole_what_is_built_of_seen).prog w K mg base CX0 7 fa fd ["script"] (spLaw K) := by
  have e := hfa.symm.trans (PySem.W.mg_of X G aLa)
  cases e
  have FMk := fun_mk (st := sMarks) lMk c_Mk kMk
  have bMk := FMk.binds (ps := ["graph", "nodes"]) fun _ _ _ _ _ _ us hl => match us, hl with | [_, _], _ => rfl
  have FBu := fun_mk (st := sBuilt) lBu c_Bu kBu
  have bBu := FBu.binds (ps := ["graph", "nodes"]) fun _ _ _ _ _ _ us hl => match us, hl with | [_, _], _ => rfl
  have FWa := fun_mk (st := sWanted) lWa c_Wa kWa
  have bWa := FWa.binds (ps := ["graph", "places", "node"]) fun _ _ _ _ _ _ us hl => match us, hl with | [_, _, _], _ => rfl
  have FRe := fun_mk (st := sRecipe) lRe c_Re kRe
  have bRe := FRe.binds (ps := ["graph", "nodes", "node"]) fun _ _ _ _ _ _ us hl => match us, hl with | [_, _, _], _ => rfl
  have FB := fun_mk (st := sBag) lB c_B kB
  have bB := FB.binds (ps := ["script"]) fun _ _ _ _ _ _ us hl => match us, hl with | [_], _ => rfl
  have FTa := fun_mk (st := sTake) lTa c_Ta kTa
  have bTa := FTa.binds (ps := ["bag", "many"]) fun _ _ _ _ _ _ us hl => match us, hl with | [_, _], _ => rfl
  have FSo := fun_mk (st := sSome) lSo c_So kSo
  have bSo := FSo.binds (ps := ["bag", "things"]) fun _ _ _ _ _ _ us hl => match us, hl with | [_, _], _ => rfl
  have FA := fun_mk (st := sAlike) lA c_A kA
  have bA := FA.binds (ps := ["found", "due"]) fun _ _ _ _ _ _ us hl => match us, hl with | [_, _], _ => rfl
  have FRo := fun_mk (st := sRows) lRo c_Ro kRo
  have bRo := FRo.binds (ps := ["bag", "many"]) fun _ _ _ _ _ _ us hl => match us, hl with | [_, _], _ => rfl
  have FCl := fun_mk (st := sClo) lCl c_Cl kCl
  have bCl := FCl.binds (ps := ["rows", "seen"]) fun _ _ _ _ _ _ us hl => match us, hl with | [_, _], _ => rfl
  have FRt := fun_mk (st := sTo) lRt c_Rt kRt
  have bRt := FRt.binds (ps := ["rows", "spots", "seen", "thing", "node"]) fun _ _ _ _ _ _ us hl => match us, hl with | [_, _, _, _, _], _ => rfl
  have FTd := fun_mk (st := sTold) lTd c_Td kTd
  have bTd := FTd.binds (ps := ["graph", "rows", "seen", "nodes"]) fun _ _ _ _ _ _ us hl => match us, hl with | [_, _, _, _], _ => rfl
  have FLa := fun_mk (st := sLaw) lLa c_La kLa
  have FI := fun_mk (st := sG 0) lI c_I kI
  have bI := FI.binds (ps := ["self"]) fun _ _ _ _ _ _ us hl => match us, hl with | [_], _ => rfl
  have mI : Meth K C "__init__" fI := ⟨aI, iI, kI⟩
  have FMa := fun_mk (st := sG 1) lMa c_Ma kMa
  have bMa := FMa.binds (ps := ["self"]) fun _ _ _ _ _ _ us hl => match us, hl with | [_], _ => rfl
  have mMa : Meth K C "many" fMa := ⟨aMa, iMa, kMa⟩
  have FNu := fun_mk (st := sG 2) lNu c_Nu kNu
  have bNu := FNu.binds (ps := ["self", "head"]) fun _ _ _ _ _ _ us hl => match us, hl with | [_, _], _ => rfl
  have mNu : Meth K C "numbered" fNu := ⟨aNu, iNu, kNu⟩
  have FLe := fun_mk (st := sG 3) lLe c_Le kLe
  have bLe := FLe.binds (ps := ["self", "key"]) fun _ _ _ _ _ _ us hl => match us, hl with | [_, _], _ => rfl
  have mLe : Meth K C "letter" fLe := ⟨aLe, iLe, kLe⟩
  have FNo := fun_mk (st := sG 4) lNo c_No kNo
  have bNo := FNo.binds (ps := ["self", "op", "parts"]) fun _ _ _ _ _ _ us hl => match us, hl with | [_, _, _], _ => rfl
  have mNo : Meth K C "node" fNo := ⟨aNo, iNo, kNo⟩
  have FHd := fun_mk (st := sG 5) lHd c_Hd kHd
  have bHd := FHd.binds (ps := ["self", "n"]) fun _ _ _ _ _ _ us hl => match us, hl with | [_, _], _ => rfl
  have mHd : Meth K C "head_of" fHd := ⟨aHd, iHd, kHd⟩
  have FIs := fun_mk (st := sG 6) lIs c_Is kIs
  have bIs := FIs.binds (ps := ["self", "n"]) fun _ _ _ _ _ _ us hl => match us, hl with | [_, _], _ => rfl
  have mIs : Meth K C "is_letter" fIs := ⟨aIs, iIs, kIs⟩
  have FOp := fun_mk (st := sG 8) lOp c_Op kOp
  have bOp := FOp.binds (ps := ["self", "n"]) fun _ _ _ _ _ _ us hl => match us, hl with | [_, _], _ => rfl
  have mOp : Meth K C "op_of" fOp := ⟨aOp, iOp, kOp⟩
  have FPa := fun_mk (st := sG 9) lPa c_Pa kPa
  have bPa := FPa.binds (ps := ["self", "n"]) fun _ _ _ _ _ _ us hl => match us, hl with | [_, _], _ => rfl
  have mPa : Meth K C "parts_of" fPa := ⟨aPa, iPa, kPa⟩
  have T : TxtG ((PySem.Challenge.rw_runshown_k22_whole_what_is_built_of_seen).prog) K mg C CT fT CN := ⟨⟨pg, hd, po, sa⟩, nH, nK, PySem.W.mg_none_of X G z_len, PySem.W.mg_none_of X G z_tuple, .inr ⟨tM, PySem.W.mg_of X G mo⟩,
    ⟨PySem.W.mg_of X G aT, PySem.W.mg_none_of X G z_super, tpT, ⟨nmT, qT, NT, bsT, _, snT, subT, abT, colT, ddT, m0, m1, m2, m3, m5, xT, rT, gT⟩, saT, gaT, ggT, nWT, nLT, iT, tT, kT, eT, vT, yT, dT, xTT, mT, stT, ⟨ocT, odT, dcT, pmT, anT, cdaT, ccT, ctT, slT, cclT, clT, cddT, cldT, ccsT, cslT, vsT, fileT, tfT, lT, c_T, lcT, fiT, ffT, lcc⟩⟩,
    PySem.W.mg_of X G aN, xN, kN, sN, tN⟩
  have TB : TxtB K mg := ⟨PySem.W.mg_none_of X G z_int, PySem.W.mg_none_of X G z_len⟩
  refine ⟨PySem.W.fnOf "law" "law" (defArgs sLaw) (defBody sLaw) (defScope sLaw) .none kVLa dcLa pmLa anLa cdLa ctLa, fun s v => .of_eq rfl, fun base _ _ => ?_⟩
  have OTa := ok_take (P := (PySem.Challenge.rw_runshown_k22_whole_what_is_built_of_seen).prog) (w := w) (base := base) FTa TB
  have OSo := ok_some FSo TB (PySem.W.mg_of X G aTa) kTa bTa OTa
  have OB := ok_bag (P := (PySem.Challenge.rw_runshown_k22_whole_what_is_built_of_seen).prog) (w := w) (base := base) FB (PySem.W.mg_none_of X G z_abs)
  have OA := ok_alike (P := (PySem.Challenge.rw_runshown_k22_whole_what_is_built_of_seen).prog) (w := w) (base := base) FA (PySem.W.mg_none_of X G z_repr)
  have OHd := ok_head (P := (PySem.Challenge.rw_runshown_k22_whole_what_is_built_of_seen).prog) (w := w) (base := base) FHd T
  have OIs := ok_isL FIs T OHd bHd mHd
  have OOp := ok_op FOp T OHd bHd mHd
  have OPa := ok_parts FPa T OHd bHd mHd
  have ONu := ok_num (P := (PySem.Challenge.rw_runshown_k22_whole_what_is_built_of_seen).prog) (w := w) (base := base) FNu T
  have OLe := ok_let FLe T ONu bNu mNu
  have ONo := ok_node FNo T ONu bNu mNu OHd bHd mHd
  have OMa := ok_many (P := (PySem.Challenge.rw_runshown_k22_whole_what_is_built_of_seen).prog) (w := w) (base := base) FMa T
  have OI := ok_init (P := (PySem.Challenge.rw_runshown_k22_whole_what_is_built_of_seen).prog) (w := w) (base := base) FI T
  have OMk := ok_marks FMk T ⟨PySem.W.mg_none_of X G z_all, PySem.W.mg_none_of X G z_range⟩ OIs bIs mIs OPa bPa mPa OMa bMa mMa
  have OBu := ok_built FBu T ⟨PySem.W.mg_none_of X G z_all, PySem.W.mg_none_of X G z_range⟩ OMk (PySem.W.mg_of X G aMk) kMk bMk OMa bMa mMa
  have OWa := ok_wanted FWa T ⟨PySem.W.mg_none_of X G z_all, PySem.W.mg_none_of X G z_range⟩ OPa bPa mPa
  have ORe := ok_recipe FRe T ⟨PySem.W.mg_none_of X G z_all, PySem.W.mg_none_of X G z_range, PySem.W.mg_none_of X G z_enumerate⟩ OIs bIs mIs OPa bPa mPa OOp bOp mOp OMk (PySem.W.mg_of X G aMk) kMk bMk OWa (PySem.W.mg_of X G aWa) kWa bWa
  have ORo := ok_rows FRo TB ⟨PySem.W.mg_none_of X G z_range, PySem.W.mg_none_of X G z_tuple⟩ OTa (PySem.W.mg_of X G aTa) kTa bTa OSo (PySem.W.mg_of X G aSo) kSo bSo
  have OCl := ok_clo (P := (PySem.Challenge.rw_runshown_k22_whole_what_is_built_of_seen).prog) (w := w) (base := base) FCl ⟨PySem.W.mg_none_of X G z_enumerate, PySem.W.mg_none_of X G z_sorted⟩
  have ORt := ok_to (P := (PySem.Challenge.rw_runshown_k22_whole_what_is_built_of_seen).prog) (w := w) (base := base) FRt ⟨PySem.W.mg_none_of X G z_isinstance, PySem.W.mg_none_of X G z_tuple, PySem.W.mg_none_of X G z_bool, PySem.W.mg_none_of X G z_len, PySem.W.mg_none_of X G z_range, PySem.W.mg_none_of X G z_dict, PySem.W.mg_none_of X G z_list⟩
  have OTd := ok_told FTd T ⟨PySem.W.mg_none_of X G z_tuple, PySem.W.mg_none_of X G z_len, PySem.W.mg_none_of X G z_dict, PySem.W.mg_none_of X G z_enumerate⟩ OCl (PySem.W.mg_of X G aCl) kCl bCl OBu (PySem.W.mg_of X G aBu) kBu bBu ORe (PySem.W.mg_of X G aRe) kRe bRe ORt (PySem.W.mg_of X G aRt) kRt bRt OMa bMa mMa OA (PySem.W.mg_of X G aA) kA bA
  exact ok_law FLa T ⟨PySem.W.mg_none_of X G z_tuple, PySem.W.mg_none_of X G z_len, PySem.W.mg_none_of X G z_list, PySem.W.mg_none_of X G z_range, PySem.W.mg_none_of X G z_enumerate⟩ ⟨mk, aI, iI, kc⟩ (PySem.W.mg_of X G aC) OI bI OB (PySem.W.mg_of X G aB) kB bB OTa (PySem.W.mg_of X G aTa) kTa bTa OSo (PySem.W.mg_of X G aSo) kSo bSo ORo (PySem.W.mg_of X G aRo) kRo bRo OTd (PySem.W.mg_of X G aTd) kTd bTd OLe bLe mLe ONo bNo mNo
end Rs

open PySem PySem.W PyProof.Rows in
set_option maxRecDepth 100000 in
set_option maxHeartbeats 0 in
theorem PySem.Challenge.cw_runshown_k22_whole_what_is_built_of_seen_holds : PySem.Challenge.rw_runshown_k22_whole_what_is_built_of_seen.Holds := by
  w_on; o_law; k_head; (case hw => w_witness2)
  k_fill
  refine Rs.walkG (l := PySem.Challenge.rw_runshown_k22_whole_what_is_built_of_seen) (n := 63) (k := 7) (x := "script") (sp := fun w => Rs.spLaw _) rfl (by decide) rfl ⟨rfl, by decide, by decide⟩ (fun w h Y => PySem.W.kIn_of Y) ?F (fun w H a ns hl _ hS => ⟨a, ns, rfl, hS, hl, fun _ => rfl⟩)
  case F =>
    intro w mg fa h KX G hmg
    refine' Rs.all_mk KX G hmg ?aMk ?lMk ?c_Mk ?kMk ?aBu ?lBu ?c_Bu ?kBu ?aWa ?lWa ?c_Wa ?kWa ?aRe ?lRe ?c_Re ?kRe ?aB ?lB ?c_B ?kB ?aTa ?lTa ?c_Ta ?kTa ?aSo ?lSo ?c_So ?kSo ?aA ?lA ?c_A ?kA ?aRo ?lRo ?c_Ro ?kRo ?aCl ?lCl ?c_Cl ?kCl ?aRt ?lRt ?c_Rt ?kRt ?aTd ?lTd ?c_Td ?kTd ?aLa ?lLa ?c_La ?kLa ?aC ?aI ?iI ?lI ?c_I ?kI ?aMa ?iMa ?lMa ?c_Ma ?kMa ?aNu ?iNu ?lNu ?c_Nu ?kNu ?aLe ?iLe ?lLe ?c_Le ?kLe ?aNo ?iNo ?lNo ?c_No ?kNo ?aHd ?iHd ?lHd ?c_Hd ?kHd ?aIs ?iIs ?lIs ?c_Is ?kIs ?aOp ?iOp ?lOp ?c_Op ?kOp ?aPa ?iPa ?lPa ?c_Pa ?kPa ?pg ?hd ?po ?sa ?mk ?kc ?nH ?nK ?z_len ?z_tuple ?z_range ?z_enumerate ?z_repr ?z_int ?z_abs ?z_list ?z_super ?z_all ?z_dict ?z_isinstance ?z_bool ?z_sorted ?mo ?aN ?xN ?kN ?sN ?tN ?aT ?xT ?rT ?gT ?saT ?gaT ?ggT ?nWT ?nLT ?iT ?tT ?kT ?eT ?vT ?yT ?dT ?mT ?stT ?xTT ?lT ?c_T ?lcT ?fiT ?ffT ?lcc ?tpT
    (case aMk => k_is)
    (case lMk => k_is)
    (case c_Mk => k_is)
    (case kMk => k_is)
    (case aBu => k_is)
    (case lBu => k_is)
    (case c_Bu => k_is)
    (case kBu => k_is)
    (case aWa => k_is)
    (case lWa => k_is)
    (case c_Wa => k_is)
    (case kWa => k_is)
    (case aRe => k_is)
    (case lRe => k_is)
    (case c_Re => k_is)
    (case kRe => k_is)
    (case aB => k_is)
    (case lB => k_is)
    (case c_B => k_is)
    (case kB => k_is)
    (case aTa => k_is)
    (case lTa => k_is)
    (case c_Ta => k_is)
    (case kTa => k_is)
    (case aSo => k_is)
    (case lSo => k_is)
    (case c_So => k_is)
    (case kSo => k_is)
    (case aA => k_is)
    (case lA => k_is)
    (case c_A => k_is)
    (case kA => k_is)
    (case aRo => k_is)
    (case lRo => k_is)
    (case c_Ro => k_is)
    (case kRo => k_is)
    (case aCl => k_is)
    (case lCl => k_is)
    (case c_Cl => k_is)
    (case kCl => k_is)
    (case aRt => k_is)
    (case lRt => k_is)
    (case c_Rt => k_is)
    (case kRt => k_is)
    (case aTd => k_is)
    (case lTd => k_is)
    (case c_Td => k_is)
    (case kTd => k_is)
    (case aLa => k_is)
    (case lLa => k_is)
    (case c_La => k_is)
    (case kLa => k_is)
    (case aC => k_is)
    (case aI => k_is)
    (case iI => k_is)
    (case lI => k_is)
    (case c_I => k_is)
    (case kI => k_is)
    (case aMa => k_is)
    (case iMa => k_is)
    (case lMa => k_is)
    (case c_Ma => k_is)
    (case kMa => k_is)
    (case aNu => k_is)
    (case iNu => k_is)
    (case lNu => k_is)
    (case c_Nu => k_is)
    (case kNu => k_is)
    (case aLe => k_is)
    (case iLe => k_is)
    (case lLe => k_is)
    (case c_Le => k_is)
    (case kLe => k_is)
    (case aNo => k_is)
    (case iNo => k_is)
    (case lNo => k_is)
    (case c_No => k_is)
    (case kNo => k_is)
    (case aHd => k_is)
    (case iHd => k_is)
    (case lHd => k_is)
    (case c_Hd => k_is)
    (case kHd => k_is)
    (case aIs => k_is)
    (case iIs => k_is)
    (case lIs => k_is)
    (case c_Is => k_is)
    (case kIs => k_is)
    (case aOp => k_is)
    (case iOp => k_is)
    (case lOp => k_is)
    (case c_Op => k_is)
    (case kOp => k_is)
    (case aPa => k_is)
    (case iPa => k_is)
    (case lPa => k_is)
    (case c_Pa => k_is)
    (case kPa => k_is)
    (case pg => k_is)
    (case hd => k_is)
    (case po => k_is)
    (case sa => k_is)
    (case mk => k_is)
    (case kc => k_is)
    (case nH => k_is)
    (case nK => k_is)
    (case z_len => k_is)
    (case z_tuple => k_is)
    (case z_range => k_is)
    (case z_enumerate => k_is)
    (case z_repr => k_is)
    (case z_int => k_is)
    (case z_abs => k_is)
    (case z_list => k_is)
    (case z_super => k_is)
    (case z_all => k_is)
    (case z_dict => k_is)
    (case z_isinstance => k_is)
    (case z_bool => k_is)
    (case z_sorted => k_is)
    (case mo => k_is)
    (case aN => k_is)
    (case xN => kernel_rfl)
    (case kN => k_is)
    (case sN => k_is)
    (case tN => k_is)
    (case aT => k_is)
    (case xT => k_is)
    (case rT => first | rfl | kernel_rfl)
    (case gT => kernel_rfl)
    (case saT => k_is)
    (case gaT => k_is)
    (case ggT => k_is)
    (case nWT => k_is)
    (case nLT => k_is)
    (case iT => k_is)
    (case tT => k_is)
    (case kT => k_is)
    (case eT => k_is)
    (case vT => k_is)
    (case yT => k_is)
    (case dT => k_is)
    (case mT => k_is)
    (case stT => k_is)
    (case xTT => kernel_rfl)
    (case lT => k_is)
    (case c_T => k_is)
    (case lcT => k_is)
    (case fiT => first | rfl | k_is)
    (case ffT => first | rfl | decide +kernel | k_is)
    (case lcc => k_is)
    (case tpT => first | rfl | decide +kernel)

