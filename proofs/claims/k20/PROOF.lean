import PyProof.Rows.All
import Wide.All
import OpenK.AllK
import Wide.FinOn
import HandS.ForMost
import KE.KDictKeyed
import HandS.Lambda
import PyProof.ReprRoads
import PyProof.ReprReads
import HandS.Evl
import HandS.Walk
import PySem.Challenge.RW_runshown_k20_graphs_of_terms
import KE.KExcSuper
import HandS.ForExc
import HandS.TryMany
import HandS.ExcInit
import HandS.ExcSuper
import HandS.ExcOwn
import HandS.WordsExc
import HandS.More
import HandS.RaiseMore
import HandS.ExcField
import HandS.EndTab
import HandS.Conv
set_option Elab.async false
set_option linter.all false
set_option maxRecDepth 100000
set_option maxHeartbeats 2000000
/-! dicts whose keys are nested tuples, over the hand layer's heap -/
namespace Rs
open PySem L2 PySem.Spec PyProof.Rows

mutual
inductive NK (H : Hp) : NestedKey → V → Prop
  | none : NK H .none .non
  | num (i : Int) : NK H (.num i) (.int i)
  | text (x : Str) : NK H (.text x) (.str x)
  | tup {a : Addr} {xs : List V} {ks : List NestedKey} : H a = some (.tup xs) → NKs H ks xs → NK H (.tup ks) (.ref a)
inductive NKs (H : Hp) : List NestedKey → List V → Prop
  | nil : NKs H [] []
  | cons {k : NestedKey} {v : V} {ks : List NestedKey} {vs : List V} : NK H k v → NKs H ks vs → NKs H (k :: ks) (v :: vs)
end
mutual
theorem NK.mono {H H' : Hp} (ht : ∀ b xs, H b = some (.tup xs) → H' b = some (.tup xs)) : ∀ (k : NestedKey) (v : V), NK H k v → NK H' k v
  | .none, _, h => by cases h; exact .none
  | .num _, _, h => by cases h; exact .num _
  | .text _, _, h => by cases h; exact .text _
  | .tup ks, _, h => by
    cases h with
    | tup e r => exact .tup (ht _ _ e) (NKs.mono ht ks _ r)
theorem NKs.mono {H H' : Hp} (ht : ∀ b xs, H b = some (.tup xs) → H' b = some (.tup xs)) : ∀ (ks : List NestedKey) (vs : List V), NKs H ks vs → NKs H' ks vs
  | [], _, h => by cases h; exact .nil
  | k :: ks, _, h => by
    cases h with
    | cons h1 h2 => exact .cons (NK.mono ht k _ h1) (NKs.mono ht ks _ h2)
end
mutual
theorem NK.isAt {P : Program} {w : World} {H : Hp} {h : Heap} (ok : HOk P w H h) : ∀ (k : NestedKey) (v : V) (u : Value), NK H k v → RelV v u → NestedIs h k u
  | .none, _, _, h1, r => by cases h1; cases r; exact .none
  | .num i, _, _, h1, r => by cases h1; obtain ⟨t, rfl⟩ := r; exact .int i t
  | .text x, _, _, h1, r => by cases h1; obtain ⟨t, rfl⟩ := r; exact .text x t
  | .tup ks, _, _, h1, r => by
    cases h1 with
    | tup e q =>
      cases r
      obtain ⟨_, its, rv, o, ho, hc, n, hd⟩ := (show ObjOk P w H h _ (.tup _) from ok _ _ e)
      exact .tup ho hc hd (by simpa using NKs.isAt ok ks _ _ q rv)
theorem NKs.isAt {P : Program} {w : World} {H : Hp} {h : Heap} (ok : HOk P w H h) : ∀ (ks : List NestedKey) (vs : List V) (us : List Value), NKs H ks vs → Vals vs us → NestedAll h ks us
  | [], _, _, h1, r => by cases h1; cases r; exact .nil
  | k :: ks, _, _, h1, r => by
    cases h1 with
    | cons a b =>
      cases r with
      | cons r1 r2 => exact .cons (NK.isAt ok k _ _ a r1) (NKs.isAt ok ks _ _ b r2)
end

/-- a nested-tuple dict's object: its entries (key, where the key's tuple stands, value) -/
def ndPhi (P : Program) (w : World) (a : Addr) (es : List (NestedKey × Addr × V)) : Heap → Prop := fun h =>
  es.length ≤ sizeLine ∧ (a == sysModules) = false ∧ ∃ xs : List (NestedKey × Addr × Value), Paired (fun p q => p.1 = q.1 ∧ p.2.1 = q.2.1 ∧ RelV p.2.2 q.2.2) es xs ∧
    ∃ o des ep, h.get? a = some o ∧ o.ExactDict ∧ o.data = .dict des ep ∧ des.toList = xs.map (entryOfKey (nestedKind P w)) ∧ (xs.map (·.1)).Nodup
def NdO (P : Program) (w : World) (a : Addr) (es : List (NestedKey × Addr × V)) : HO := .ext (ndPhi P w a es)
/-- at a stands a dict with the entries kvs -/
def ND (P : Program) (w : World) (H : Hp) (a : Addr) (kvs : List (NestedKey × V)) : Prop :=
  ∃ es : List (NestedKey × Addr × V), H a = some (NdO P w a es) ∧ (∀ e ∈ es, NK H e.1 (.ref e.2.1) ∧ e.1.depth ≤ 8) ∧ kvs = es.map fun e => (e.1, e.2.2)
theorem ndo_tup {P : Program} {w : World} {a : Addr} {es : List (NestedKey × Addr × V)} {xs : List V} : NdO P w a es ≠ .tup xs := fun z => by
  have z' : HO.ext _ = HO.tup xs := z
  cases z'
theorem ndo_lst {P : Program} {w : World} {a : Addr} {es : List (NestedKey × Addr × V)} {xs : List V} : NdO P w a es ≠ .lst xs := fun z => by
  have z' : HO.ext _ = HO.lst xs := z
  cases z'
theorem ndo_ins {P : Program} {w : World} {a : Addr} {es : List (NestedKey × Addr × V)} {C dx : Addr} {fs : List (Str × V)} : NdO P w a es ≠ .ins C dx fs := fun z => by
  have z' : HO.ext _ = HO.ins C dx fs := z
  cases z'
theorem ndo_own {P : Program} {w : World} {a : Addr} {es : List (NestedKey × Addr × V)} {x : Addr} : NdO P w a es ≠ .own x := fun z => by
  have z' : HO.ext _ = HO.own x := z
  cases z'
theorem ND.frame {P : Program} {w : World} {H H' : Hp} {a : Addr} {kvs : List (NestedKey × V)} (d : ND P w H a kvs) (ha : ∀ o, H a = some o → H' a = some o) (ht : ∀ b xs, H b = some (.tup xs) → H' b = some (.tup xs)) : ND P w H' a kvs := by
  obtain ⟨es, h1, h2, h3⟩ := d
  exact ⟨es, ha _ h1, fun e he => ⟨NK.mono ht _ _ (h2 e he).1, (h2 e he).2⟩, h3⟩
theorem ND.at {P : Program} {w : World} {H : Hp} {h : Heap} {a : Addr} {kvs : List (NestedKey × V)} (ok : HOk P w H h) (d : ND P w H a kvs) :
    kvs.length ≤ sizeLine ∧ (a == sysModules) = false ∧ ∃ (es : List (NestedKey × Addr × V)) (xs : List (NestedKey × Addr × Value)), H a = some (NdO P w a es) ∧ (∀ e ∈ es, NK H e.1 (.ref e.2.1) ∧ e.1.depth ≤ 8) ∧ kvs = es.map (fun e => (e.1, e.2.2)) ∧
      Paired (fun p q => p.1 = q.1 ∧ p.2.1 = q.2.1 ∧ RelV p.2.2 q.2.2) es xs ∧ h.DictOfH (nestedKind P w) a xs := by
  obtain ⟨es, h1, h2, h3⟩ := d
  obtain ⟨⟨z, hd, xs, r, o, des, ep, q1, q2, q3, q4, q5⟩, _, _⟩ := (show ObjOk P w H h a (.ext (ndPhi P w a es)) from ok a _ h1)
  refine ⟨by rw [h3, List.length_map]; exact z, hd, es, xs, h1, h2, h3, r, o, des, ep, q1, q2, q3, q4, fun x hx => ?_, q5⟩
  have all : ∀ {l : List (NestedKey × Addr × V)} {m : List (NestedKey × Addr × Value)}, Paired (fun p q => p.1 = q.1 ∧ p.2.1 = q.2.1 ∧ RelV p.2.2 q.2.2) l m → (∀ e ∈ l, NK H e.1 (.ref e.2.1) ∧ e.1.depth ≤ 8) → ∀ x ∈ m, (nestedKind P w).is h x.1 x.2.1 := by
    intro l m q
    induction q with
    | nil => intro _ x hx; exact nomatch hx
    | @cons p q ps qs hq t ih =>
      intro hl x hx
      rcases List.mem_cons.mp hx with e | hx
      · subst e
        obtain ⟨a1, a2⟩ := hl p List.mem_cons_self
        rw [← hq.1, ← hq.2.1]
        exact ⟨NK.isAt ok _ _ _ a1 rfl, a2⟩
      · exact ih (fun e he => hl e (List.mem_cons_of_mem _ he)) x hx
  exact all r h2 x hx
theorem nd_val {es : List (NestedKey × Addr × V)} {xs : List (NestedKey × Addr × Value)} (r : Paired (fun p q => p.1 = q.1 ∧ p.2.1 = q.2.1 ∧ RelV p.2.2 q.2.2) es xs) (k : NestedKey) :
    RelO (valV (es.map fun e => (e.1, e.2.2)) k) ((atKey xs k).map (·.2)) := by
  induction r with
  | nil => exact True.intro
  | @cons p q ps qs h t ih =>
    obtain ⟨h1, _, h2⟩ := h
    rw [List.map_cons]
    by_cases e : p.1 = k
    · have e' : q.1 = k := h1.symm.trans e
      have b : atKey (q :: qs) k = some q.2 := by simp [atKey, List.find?_cons, e']
      rw [valV_pos e, b]; exact h2
    · have e' : ¬ q.1 = k := fun z => e (h1.trans z)
      have b : atKey (q :: qs) k = atKey qs k := by simp [atKey, List.find?_cons, e']
      rw [valV_neg e, b]; exact ih
/-- the entries behind a store -/
def ndPut (es : List (NestedKey × Addr × V)) (k : NestedKey) (b : Addr) (y : V) : List (NestedKey × Addr × V) :=
  if (es.any fun e => decide (e.1 = k)) = true then es.map fun e => if e.1 = k then (e.1, e.2.1, y) else e else es ++ [(k, b, y)]
theorem ndPut_map (es : List (NestedKey × Addr × V)) (k : NestedKey) (b : Addr) (y : V) : (ndPut es k b y).map (fun e => (e.1, e.2.2)) = putK (es.map fun e => (e.1, e.2.2)) k y := by
  unfold ndPut putK
  have e : ((es.map fun e => (e.1, e.2.2)).any fun kv => decide (kv.1 = k)) = (es.any fun e => decide (e.1 = k)) := by
    rw [List.any_map]; rfl
  rw [e]
  by_cases q : (es.any fun e => decide (e.1 = k)) = true
  · rw [if_pos q, if_pos q, List.map_map, List.map_map]
    refine List.map_congr_left fun x _ => ?_
    by_cases h : x.1 = k <;> simp [h]
  · rw [if_neg q, if_neg q]; simp
theorem ndPut_pair {es : List (NestedKey × Addr × V)} {xs : List (NestedKey × Addr × Value)} (r : Paired (fun p q => p.1 = q.1 ∧ p.2.1 = q.2.1 ∧ RelV p.2.2 q.2.2) es xs) (k : NestedKey) (b : Addr) {y : V} {u : Value} (ry : RelV y u) :
    Paired (fun p q => p.1 = q.1 ∧ p.2.1 = q.2.1 ∧ RelV p.2.2 q.2.2) (ndPut es k b y) (storedH xs k b u) := by
  have e : (es.any fun kv => decide (kv.1 = k)) = (atKey xs k).isSome := by
    have q := (nd_val r k).isSome_eq
    rw [Option.isSome_map] at q
    rw [← q, ← valV_any, List.any_map]; rfl
  unfold ndPut storedH
  rw [e]
  by_cases q : (atKey xs k).isSome = true
  · rw [if_pos q, if_pos q]
    clear e q
    induction r with
    | nil => exact .nil
    | @cons p q ps qs h t ih =>
      rw [List.map_cons, List.map_cons]
      refine .cons ?_ ih
      obtain ⟨h1, h2, h3⟩ := h
      unfold putAt
      by_cases e : p.1 = k
      · rw [if_pos e, if_pos (h1.symm.trans e)]; exact ⟨h1, h2, ry⟩
      · rw [if_neg e, if_neg (fun z => e (h1.trans z))]; exact ⟨h1, h2, h3⟩
  · rw [if_neg q, if_neg q]; exact Paired.snoc r ⟨rfl, rfl, ry⟩
theorem ndPut_len (es : List (NestedKey × Addr × V)) (k : NestedKey) (b : Addr) (y : V) : (ndPut es k b y).length ≤ es.length + 1 := by
  unfold ndPut
  split <;> simp
theorem ndPut_keys {H : Hp} {es : List (NestedKey × Addr × V)} (h2 : ∀ e ∈ es, NK H e.1 (.ref e.2.1) ∧ e.1.depth ≤ 8) {k : NestedKey} {b : Addr} (y : V) (hk : NK H k (.ref b)) (hd : k.depth ≤ 8) :
    ∀ e ∈ ndPut es k b y, NK H e.1 (.ref e.2.1) ∧ e.1.depth ≤ 8 := by
  unfold ndPut
  split
  · intro e he
    obtain ⟨e0, h0, rfl⟩ := List.mem_map.mp he
    split
    · exact h2 e0 h0
    · exact h2 e0 h0
  · intro e he
    rcases List.mem_append.mp he with h | h
    · exact h2 e h
    · rw [List.mem_singleton] at h; subst h; exact ⟨hk, hd⟩

section
variable {X : Cx} {pins : List (Addr × Obj)} {σ : L2.St} {H : Hp} {s : Shared} {a b : Addr} {k : NestedKey} {kvs : List (NestedKey × V)} {y v : V} {u r : Value} {A : Around} {E : Value → Shared → Prop}
theorem nd_room (hu : A.units + 64 < cLine) : (nestedKind X.prog X.w).room A.in1 := by
  show A.units + 1 + 8 < cLine
  omega
theorem nd_getItem {Q : Value → Shared → Prop} (hu : A.units + 64 < cLine) (I : Inv X pins σ H s) (d : ND X.prog X.w H a kvs) (hk : NK H k (.ref b)) (hd : k.depth ≤ 8) (g : valV kvs k = some v) (h : ∀ w' s', Inv X pins σ H s' → RelV v w' → Q w' s') :
    wpAny (model X.prog X.w) A (getItem (.ref a) (.ref b)) Q E s := by
  obtain ⟨_, _, es, xs, _, _, rfl, rel, dd⟩ := d.at I.hok
  obtain ⟨w', hw, rw'⟩ := RelO.some_of (v := v) (o := (atKey xs k).map (·.2)) (by rw [← g]; exact nd_val rel k)
  obtain ⟨p, hp, hp2⟩ := Option.map_eq_some_iff.mp hw
  refine wpAny_getItem_heap (nd_room hu) ⟨NK.isAt I.hok _ _ _ hk rfl, hd⟩ dd hp ?_
  rw [hp2]
  exact h w' _ (I.tok _) rw'
theorem nd_in {Q : Value → Shared → Prop} (hu : A.units + 64 < cLine) (I : Inv X pins σ H s) (d : ND X.prog X.w H a kvs) (hk : NK H k (.ref b)) (hd : k.depth ≤ 8) (h : ∀ s', Inv X pins σ H s' → Q (.bool (valV kvs k).isSome) s') :
    wpAny (model X.prog X.w) A (compareOp .In (.ref b) (.ref a)) Q E s := by
  obtain ⟨_, hs, es, xs, _, _, rfl, rel, dd⟩ := d.at I.hok
  refine wpAny_in_heap (nd_room hu) ⟨NK.isAt I.hok _ _ _ hk rfl, hd⟩ hs dd ?_
  have q := (nd_val rel k).isSome_eq
  rw [Option.isSome_map] at q
  rw [← q]
  exact h _ (I.tok _)
theorem nd_notIn {Q : Value → Shared → Prop} (hu : A.units + 64 < cLine) (I : Inv X pins σ H s) (d : ND X.prog X.w H a kvs) (hk : NK H k (.ref b)) (hd : k.depth ≤ 8) (h : ∀ s', Inv X pins σ H s' → Q (.bool (!(valV kvs k).isSome)) s') :
    wpAny (model X.prog X.w) A (compareOp .NotIn (.ref b) (.ref a)) Q E s := by
  obtain ⟨_, hs, es, xs, _, _, rfl, rel, dd⟩ := d.at I.hok
  refine wpAny_notIn_heap (nd_room hu) ⟨NK.isAt I.hok _ _ _ hk rfl, hd⟩ hs dd ?_
  have q := (nd_val rel k).isSome_eq
  rw [Option.isSome_map] at q
  rw [← q]
  exact h _ (I.tok _)
theorem nd_ok {P : Program} {w : World} {H' : Hp} {h' : Heap} {es : List (NestedKey × Addr × V)} {xs : List (NestedKey × Addr × Value)} (z : es.length ≤ sizeLine) (hd : (a == sysModules) = false)
    (rel : Paired (fun p q => p.1 = q.1 ∧ p.2.1 = q.2.1 ∧ RelV p.2.2 q.2.2) es xs) (dd : ∃ o des ep, h'.get? a = some o ∧ o.ExactDict ∧ o.data = .dict des ep ∧ des.toList = xs.map (entryOfKey (nestedKind P w)) ∧ (xs.map (·.1)).Nodup) : ObjOk P w H' h' a (NdO P w a es) := by
  obtain ⟨o, des, ep, q1, q2, q3, q4, q5⟩ := dd
  refine ⟨⟨z, hd, xs, rel, o, des, ep, q1, q2, q3, q4, q5⟩, ⟨o, q1⟩, fun h1 h2 hp hk => ?_⟩
  obtain ⟨z', hd', xs', r', o', des', ep', p1, p2, p3, p4, p5⟩ := hp
  exact ⟨z', hd', xs', r', o', des', ep', hk _ p1, p2, p3, p4, p5⟩
theorem nd_setItem {Q : Unit → Shared → Prop} (hu : A.units + 64 < cLine) (I : Inv X pins σ H s) (d : ND X.prog X.w H a kvs) (hk : NK H k (.ref b)) (hd : k.depth ≤ 8) (hl : kvs.length < sizeLine) (rv : RelV v r)
    (h : ∀ H' s', ND X.prog X.w H' a (putK kvs k v) → (∀ c, c ≠ a → H' c = H c) → Inv X pins σ H' s' → Q () s') : wpAny (model X.prog X.w) A (setItem (.ref a) (.ref b) r) Q E s := by
  obtain ⟨z, hs, es, xs, he, h2, rfl, rel, dd⟩ := d.at I.hok
  rw [List.length_map] at hl z
  have hz : xs.length ≤ sizeLine := by rw [← Paired.length rel]; exact z
  have hl' : (ndPut es k b v).length ≤ sizeLine := by have := ndPut_len es k b v; omega
  refine wpAny_setItem_heap (hsz := hz) (nd_room hu) ⟨NK.isAt I.hok _ _ _ hk rfl, hd⟩ dd fun h' dd' sb => ?_
  obtain ⟨q, qes, ep, hq, p2, p3, p4, _, p5⟩ := dd'
  have ht : ∀ c ys, H c = some (.tup ys) → upd H a (NdO X.prog X.w a (ndPut es k b v)) c = some (.tup ys) := fun c ys ec => by
    rw [upd_ne (ne_of ec he fun z => ndo_tup z.symm)]
    exact ec
  refine h (upd H a (NdO X.prog X.w a (ndPut es k b v))) _ ⟨_, upd_same, fun e hm => ?_, (ndPut_map es k b v).symm⟩ (fun c hc => upd_ne hc) (d_write I (by rw [he]; exact True.intro) sb ⟨q, hq⟩ (nd_ok hl' hs (ndPut_pair rel k b rv) ⟨q, qes, ep, hq, p2, p3, p4, p5⟩))
  obtain ⟨a1, a2⟩ := ndPut_keys h2 v hk hd e hm
  exact ⟨NK.mono ht _ _ a1, a2⟩
theorem nd_empty {P : Program} {w : World} {H : Hp} (h : Heap) (hb : sysModules < h.objs.size) : ObjOk P w H (h.push { cls := .type "dict", data := .dict #[] }) h.objs.size (NdO P w h.objs.size []) :=
  nd_ok (Nat.zero_le _) (beq_eq_false_iff_ne.mpr (Ne.symm (Nat.ne_of_lt hb))) .nil ⟨_, #[], 0, Heap.get?_push_size _ rfl, ⟨rfl, rfl, rfl⟩, rfl, rfl, List.nodup_nil⟩
end

/-! ### readings and rules -/
def tNGet (P : Program) (w : World) (td ty : TE) : TE := fun σ H Q => td σ H fun x H1 => ty σ H1 fun y H2 => ∃ a b kvs k v, x = .ref a ∧ y = .ref b ∧ ND P w H2 a kvs ∧ NK H2 k (.ref b) ∧ k.depth ≤ 8 ∧ valV kvs k = some v ∧ Q v H2
def tNIn (P : Program) (w : World) (neg : Bool) (ty td : TE) : TE := fun σ H Q => ty σ H fun y H1 => td σ H1 fun x H2 => ∃ a b kvs k, x = .ref a ∧ y = .ref b ∧ ND P w H2 a kvs ∧ NK H2 k (.ref b) ∧ k.depth ≤ 8 ∧ Q (.bl (if neg then !(valV kvs k).isSome else (valV kvs k).isSome)) H2
def sNPut (P : Program) (w : World) (td ty tv : TE) : TS := fun D σ H => tv σ H fun v H1 => td σ H1 fun x H2 => ty σ H2 fun y H3 => ∃ a b kvs k, x = .ref a ∧ y = .ref b ∧ ND P w H3 a kvs ∧ NK H3 k (.ref b) ∧ k.depth ≤ 8 ∧ kvs.length < sizeLine ∧
  ∀ H4, ND P w H4 a (putK kvs k v) → (∀ c, c ≠ a → H4 c = H3 c) → D.nx σ H4
def tNNew (P : Program) (w : World) : TE := fun _ H Q => ∀ p, H p = none → ND P w (upd H p (NdO P w p [])) p [] → Q (.ref p) (upd H p (NdO P w p []))
section
variable {X : Cx} {o i e value : Expr} {pos pos' tpos : Pos} {td ty tv : TE}
theorem pe_nget (hu : X.A.units + 64 < cLine) (ho : PE X o td) (hi : PE X i ty) (hs : NoSl i) : PE X (.Subscript o i pos) (tNGet X.prog X.w td ty) := by
  refine ⟨fun pins s σ H Q I h => ?_⟩
  refine subD_of PySem.F.slot_dict_getitem.lookup hs (thn (ho.run pins s σ H _ I h) fun u s1 ⟨x, H1, I1, rx, q1⟩ => thn (hi.run pins s1 σ H1 _ I1 q1) fun iv s2 ⟨y, H2, I2, ry, a, b, kvs, k, v, ex, ey, d, hk, hd, hv, q2⟩ => ?_)
  subst ex ey
  obtain rfl : u = Value.ref a := rx
  obtain rfl : iv = Value.ref b := ry
  have ht : s2.TypeIs (.ref a) "dict" := by
    obtain ⟨_, _, _, _, _, _, _, _, dd⟩ := d.at I2.hok
    exact dd.typeIs
  exact ⟨ht, nd_getItem hu I2 d hk hd hv fun w' s3 I3 rw' => ⟨v, H2, I3, rw', q2⟩⟩
theorem pc_nin (hu : X.A.units + 64 < cLine) (hi : PE X i ty) (ho : PE X o td) : PC X .In i o (tNIn X.prog X.w false ty td) := by
  refine ⟨fun pins s σ H Q I h => ?_⟩
  refine thn (hi.run pins s σ H _ I h) fun iv s1 ⟨y, H1, I1, ry, q1⟩ => thn (ho.run pins s1 σ H1 _ I1 q1) fun u s2 ⟨x, H2, I2, rx, a, b, kvs, k, ex, ey, d, hk, hd, q2⟩ => ?_
  subst ex ey
  obtain rfl : u = Value.ref a := rx
  obtain rfl : iv = Value.ref b := ry
  exact nd_in hu I2 d hk hd fun s3 I3 => ⟨.bl (valV kvs k).isSome, H2, I3, rfl, q2⟩
theorem pc_nnotin (hu : X.A.units + 64 < cLine) (hi : PE X i ty) (ho : PE X o td) : PC X .NotIn i o (tNIn X.prog X.w true ty td) := by
  refine ⟨fun pins s σ H Q I h => ?_⟩
  refine thn (hi.run pins s σ H _ I h) fun iv s1 ⟨y, H1, I1, ry, q1⟩ => thn (ho.run pins s1 σ H1 _ I1 q1) fun u s2 ⟨x, H2, I2, rx, a, b, kvs, k, ex, ey, d, hk, hd, q2⟩ => ?_
  subst ex ey
  obtain rfl : u = Value.ref a := rx
  obtain rfl : iv = Value.ref b := ry
  exact nd_notIn hu I2 d hk hd fun s3 I3 => ⟨.bl (!(valV kvs k).isSome), H2, I3, rfl, q2⟩
theorem ps_nput (hu : X.A.units + 64 < cLine) (ho : PE X o td) (hi : PE X i ty) (hv : PE X value tv) (hs : swapsWith value (some (.Subscript o i pos')) pos.line X.env = pure false) :
    PS X (.Assign [.Subscript o i pos'] value pos) (sNPut X.prog X.w td ty tv) := by
  refine ⟨fun pins s σ H D I h => ?_⟩
  refine wpAny_Assign_Subscript (thn (hv.run pins s σ H _ I h) fun r s1 ⟨v, H1, I1, rv, q1⟩ => thn (ho.run pins s1 σ H1 _ I1 q1) fun u s2 ⟨x, H2, I2, rx, q2⟩ => thn (hi.run pins s2 σ H2 _ I2 q2) fun iv s3 ⟨y, H3, I3, ry, a, b, kvs, k, ex, ey, d, hk, hd, hl, q3⟩ => ?_) hs
  subst ex ey
  obtain rfl : u = Value.ref a := rx
  obtain rfl : iv = Value.ref b := ry
  exact nd_setItem hu I3 d hk hd hl rv fun H4 s4 d4 e4 I4 => ⟨σ, H4, I4, q3 H4 d4 e4⟩
theorem pe_nnew : PE X (.Dict [] [] pos) (tNNew X.prog X.w) := ⟨fun pins s σ H Q I h => by
  have hf : H s.heap.objs.size = none := I.hok.fresh (Nat.le_refl _)
  refine wpAny_Dict_empty ⟨.ref s.heap.objs.size, _, I.laid (a := s.heap.objs.size) (o := NdO X.prog X.w s.heap.objs.size []) (t' := s.toks) (fun _ _ q => Heap.get?_push_of_some _ q) (Nat.le_refl _) (nd_empty s.heap I.big), rfl, h _ hf ?_⟩
  exact ⟨[], upd_same, fun e he => (nomatch he), rfl⟩⟩
end
end Rs

set_option Elab.async false
set_option linter.all false
set_option maxRecDepth 100000
set_option maxHeartbeats 2000000
/-! defs that ask for no guard around them (repr), repr of data -/
namespace Rs
open PySem L2 PySem.Spec PyProof.Rows

/-- a def's promise where no guard stands around -/
structure FnG (P : Program) (w : World) (K : PySem.W.Frag) (mg : Str → Option Value) (base : Heap) (CX : CXT) (k : Nat) (f : Addr) (fd : FuncData) (ps : List Str) (sp : Sp) : Prop where
  many : ∀ vs H Q E, sp vs H Q E → vs.length = ps.length
  goes : ∀ (A : Around) (around : List Env) (s : Shared) (H : Hp) (given : Args) (us : List Value) (vs : List V) (Q : VK) (E : XK), A.guards = some [] → Room k A → Env0 P w K mg base A around s H → BindsTo s fd given (ps.zip us) → Vals vs us →
    sp vs H Q E → codeAny (model P w) A (.call (.ref f) given) (CR CX around P w H s Q E) s
theorem FnG.ofOk {P : Program} {w : World} {K : PySem.W.Frag} {mg : Str → Option Value} {base : Heap} {CX : CXT} {k : Nat} {f : Addr} {fd : FuncData} {ps : List Str} {sp : Sp} (F : FnOk P w K mg base CX k f fd ps sp) : FnG P w K mg base CX k f fd ps sp :=
  ⟨F.len, fun A around s H given us vs Q E _ => F.run A around s H given us vs Q E⟩
section
variable {P : Program} {w : World} {K : PySem.W.Frag} {mg : Str → Option Value} {base : Heap}
theorem okG {x qual : Str} {st : Stmt} {f : Addr} {fd : FuncData} {N ps : List Str} {k : Nat} {sp : Sp} (F : Fun K x qual st f fd) (S : FnScope N ps (defScope st)) (hlen : ∀ vs H Q E, sp vs H Q E → vs.length = ps.length)
    (body : ∀ (cdv : Value) (A : Around) (around : List Env) (s : Shared) (H : Hp) (vs : List V) (Q : VK) (E : XK), (A.deeper (envOfC qual (defScope st) s.heap.objs.size f cdv)).guards = some [] → Room k (A.deeper (envOfC qual (defScope st) s.heap.objs.size f cdv)) → sp vs H Q E →
      ∃ t, PSs (cxOf CX0 P w K mg base N qual (defScope st) f cdv A around s H E).nox (defBody st) t ∧ t { nx := fun _ H' => Q .non H', rt := Q } (start N vs) H) : FnG P w K mg base CX0 (k + 1) f fd ps sp := by
  obtain ⟨oc, od, kV, doc, pm, an, cdv, ct, osl, rfl, lk, hcd⟩ := F.ex
  refine ⟨hlen, fun A around s H given us vs Q E hg hr e0 hb r hsp => ?_⟩
  refine LamX.run_ofS lk hcd S hr e0 hb r (hlen _ _ _ _ hsp) fun hr' => ?_
  obtain ⟨t, h, q⟩ := body cdv A around s H vs Q E (by first | exact hg | (simpa [Around.deeper] using hg)) hr' hsp
  exact ⟨t, h.nox, q⟩
end
section
variable {X : Cx} {CX : CXT} {k : Nat} {f : Addr} {fd : FuncData} {ps : List Str} {sp : Sp} {E : XK} {x : Str} {p pos : Pos} {e : Expr} {es : List Expr} {t : TA}
theorem goes_fn {pins : List (Addr × Obj)} {σ : L2.St} {H : Hp} {s : Shared} {Q : VK} {us : List Value} {vs : List V} (F : FnG X.prog X.w X.K X.mg X.base CX k f fd ps sp) (hgd : X.A.guards = some []) (hr : Room k X.A) (hb : Binds X.K fd ps []) (hx : Passes CX X E)
    (I : Inv X pins σ H s) (r : Vals vs us) (h : sp vs H Q E) : wpAny (model X.prog X.w) X.A (call (.ref f) us) (EP X pins σ Q) X.xe s := by
  have hl : us.length = ps.length := by rw [← r.length]; exact F.many _ _ _ _ h
  have bd : BindsTo s fd ⟨us, []⟩ (ps.zip us) := by
    have q := hb s us I.kIn (by rw [List.append_nil]; exact hl)
    rw [List.append_nil] at q
    exact q
  refine wpAny_call (codeAny_mono (F.goes X.A X.stack s H ⟨us, []⟩ us vs Q E hgd hr I.env0 bd r h) fun z s' hq => ?_)
  match z, hq with
  | .error e, hq => exact hx pins σ H s e s' I hq
  | .ok (.ret u), hq => exact I.after hq
  | .ok .next, hq => exact False.elim hq
  | .ok .brk, hq => exact False.elim hq
  | .ok .cont, hq => exact False.elim hq
/-- f(e, ..), no guard around -/
theorem pe_callG (F : FnG X.prog X.w X.K X.mg X.base CX k f fd ps sp) (hgd : X.A.guards = some []) (hr : Room k X.A) (hg : Gl X x) (hm : X.mg x = some (.ref f)) (hk : PySem.W.keepIn X.K (.ref f) = true) (hb : Binds X.K fd ps []) (hx : Passes CX X E)
    (ha : PA X (e :: es) t) (hdb : (x == ("__debug__" : Str)) = false := by decide) (he : starEach (e :: es) X.env = (false, eval e X.env) :: starEach es X.env := by rfl) (hpl : (backTo pos (starEach es X.env)).any (·.1) = false := by rfl) :
    PE X (.Call (.Name x p) (e :: es) [] pos) (fun σ H Q => t σ H fun vs H1 => sp vs H1 Q E) := by
  refine ⟨fun pins s σ H Q I h => wpAny_Call_Name_kw (ld_glob I hg hm ?_ hdb)⟩
  refine PySem.W.callWith_K (h₀ := X.base) I.ok.mod.kin hk (thn (ha.run pos pins s σ H _ I h) fun us s1 ⟨vs, H1, I1, r, q⟩ => ⟨I1.kIn, goes_fn F hgd hr hb hx I1 r q⟩) he hpl
/-- repr(d), d a list or tuple of data -/
theorem call_reprD (hgd : X.A.guards = some []) (hu : X.A.units + 128 < cLine) :
    CallR X (.builtin "repr") (fun xs H Q => ∃ a d, xs = [V.ref a] ∧ Dp X.K H (.ref a) d ∧ d.showable = true ∧ d.hasDict = false ∧ d.depth ≤ 60 ∧ d.shown.length ≤ sizeLine ∧ Q (.str d.shown) H) := by
  intro pins s σ H xs us Q I r h
  obtain ⟨a, d, rfl, hd, h1, h2, h3, h4, q⟩ := h
  obtain ⟨u, rfl, ru⟩ := vals1 r
  obtain rfl : u = Value.ref a := ru
  obtain ⟨as, rd⟩ := Dp.reads I d _ _ hd rfl
  exact repr_of_reads' rd h1 (fun z => by rw [h2] at z; cases z) hgd (by omega) (fun _ _ z => z) (fun h' v tk hk => ⟨.str d.shown, H, I.kept hk, ⟨_, rfl⟩, q⟩) h4
end
/-- the end of a law's row, no guard around -/
theorem lawG {P : Program} {w : World} {K : PySem.W.Frag} {mg mb : Str → Option Value} {k : Nat} {fa a : Addr} {fd : FuncData} {x : Str} {sp : Sp} {s₁ : Shared} {vs : List Value} {ns : List Int}
    (KX : K.In s₁.heap) (hns : s₁.heap.Ns mainGlobals mg) (hb : s₁.heap.Ns builtinsNs mb) (hbb : ∀ x : Str, x ≠ "__name__" → mb x = bootBuiltins x) (hlim : s₁.heap.NoLimit) (hg : s₁.gens = #[])
    (ha : s₁.heap.get? a = some { cls := .type "list", data := .seq vs.toArray }) (hi : IntsAre vs ns) (hl : ns.length ≤ sizeLine) (hr : Room k callerA)
    (F : ∀ base : Heap, K.In base → base.Ns mainGlobals mg → FnG P w K mg base CX0 k fa fd [x] sp) (hbind : ∀ (s : Shared) (u : Value), BindsTo s fd ⟨[u], []⟩ [(x, u)])
    (hsp : ∀ H : Hp, Only H → SqL K H a (ns.map V.int) → sp [.ref a] H (fun v _ => v = .bl true) fun _ _ _ => False)
    (hCX : ∀ H e s', CX0 [] H s₁ (fun _ _ _ => False) e s' → False) :
    codeAny (model P w) callerA (.call (.ref fa) ⟨[.ref a], []⟩) (fun r s' => r = .ok (.ret (.bool true)) ∧ OldK s₁.heap s'.heap ∧ s'.os = s₁.os ∧ AllBare s'.gens) s₁ := by
  have vi := vals_ints hi
  -- the law's run from an abstract heap that knows at most the script
  have go : ∀ H : Hp, Only H → SqL K H a (ns.map V.int) → HOk P w H s₁.heap → (∀ b, H b ≠ none → b = a) → (H a ≠ none → K.lookup a = none) →
      codeAny (model P w) callerA (.call (.ref fa) ⟨[.ref a], []⟩) (fun r s' => r = .ok (.ret (.bool true)) ∧ OldK s₁.heap s'.heap ∧ s'.os = s₁.os ∧ AllBare s'.gens) s₁ := by
    intro H hO hS hok hA hK
    have free : ∀ {b : Addr}, b ≠ a → H b = none := fun {b} hb => by
      by_cases q : H b = none
      · exact q
      · exact absurd (hA b q) hb
    have noD : ∀ {b : Addr} {o : Obj} {es : Array DictEntry} {ep : Nat}, s₁.heap.get? b = some o → o.data = .dict es ep → H b = none := fun {b o es ep} e d => by
      by_cases hb : b = a
      · subst hb
        rw [ha] at e
        cases e
        exact absurd d (fun z => nomatch z)
      · exact free hb
    have nsB : ∀ {b : Addr} {m : Str → Option Value}, s₁.heap.Ns b m → (hidT s₁.heap H).Ns b m := fun {b m} ⟨o, es, ep, e, d, r⟩ => ⟨o, es, ep, hidT_get e (noD e d), d, r⟩
    have kB : K.In (hidT s₁.heap H) := fun b o e => by
      refine hidT_get (KX b o e) ?_
      by_cases hb : b = a
      · subst hb
        by_cases q : H b = none
        · exact q
        · rw [hK q] at e
          cases e
      · exact free hb
    have mB : Mod K mg (hidT s₁.heap H) := ⟨kB, nsB hns, ⟨mb, nsB hb, hbb⟩, let ⟨mc, h1, h2⟩ := hlim; ⟨mc, nsB h1, h2⟩⟩
    have e0 : Env0 P w K mg (hidT s₁.heap H) callerA [] s₁ H := ⟨rfl, mB, fun b o e => of_hidT e, Nat.le_of_eq (hidT_size _ _), trivial, fun b hb => (List.not_mem_nil (show b ∈ ([] : List Addr) from hb)).elim, hok, .of_eq hg⟩
    refine codeAny_mono ((F _ kB (nsB hns)).goes callerA [] s₁ H ⟨[.ref a], []⟩ [.ref a] [.ref a] _ _ rfl hr e0 (hbind s₁ (.ref a)) (.cons rfl .nil) (hsp H hO hS)) fun r s' h => ?_
    match r, h with
    | .error e, h => exact (hCX H e s' h).elim
    | .ok .next, h => exact False.elim h
    | .ok .brk, h => exact False.elim h
    | .ok .cont, h => exact False.elim h
    | .ok (.ret u), h =>
      obtain ⟨v, H', os, bare, un, ok', ru, q⟩ := h
      have q' : v = .bl true := q
      subst q'
      obtain rfl : u = Value.bool true := ru
      refine ⟨rfl, OldK.of_keep fun b o e => ?_, os, bare⟩
      cases q : H b with
      | none => exact un.keep b o e q (fun z => (List.not_mem_nil (show b ∈ ([] : List Addr) from z)).elim) List.not_mem_nil
      | some u =>
        rcases hO b with z | ⟨ob, xs, z⟩
        · rw [q] at z; cases z
        · obtain ⟨e1, _⟩ := hok b _ z
          obtain ⟨e2, _⟩ := ok' b _ (un.frzs b ob _ z)
          rw [e] at e1
          cases e1
          exact e2
  have hl' : (ns.map V.int).length ≤ sizeLine := by rw [List.length_map]; exact hl
  cases hk : K.lookup a with
  | some o =>
    have e := KX a o hk
    rw [ha] at e
    cases e
    have vlen := hi.length
    exact go (fun _ => none) (fun _ => .inl rfl) (.inr ⟨_, vs.toArray, _, hk, rfl, rfl, rfl, by rw [List.size_toArray, vlen]; exact hl, by simpa using vi⟩) (fun b u z => nomatch (show (none : Option HO) = some u from z)) (fun b z => (z rfl).elim) fun z => (z rfl).elim
  | none =>
    have here : ∀ b, b = a → (fun c => if c = a then some (HO.frz { cls := .type "list", data := .seq vs.toArray } (.lst (ns.map V.int))) else none) b = some (HO.frz { cls := .type "list", data := .seq vs.toArray } (.lst (ns.map V.int))) := fun b hb => if_pos hb
    have off : ∀ b, b ≠ a → (fun c => if c = a then some (HO.frz { cls := .type "list", data := .seq vs.toArray } (.lst (ns.map V.int))) else none) b = none := fun b hb => if_neg hb
    refine go (fun c => if c = a then some (HO.frz { cls := .type "list", data := .seq vs.toArray } (.lst (ns.map V.int))) else none) (fun b => ?_) (.inl (.inr ⟨{ cls := .type "list", data := .seq vs.toArray }, here a rfl⟩)) (fun b u z => ?_) (fun b z => ?_) fun _ => hk
    · by_cases hb : b = a
      · exact .inr ⟨_, _, here b hb⟩
      · exact .inl (off b hb)
    · by_cases hb : b = a
      · have e := (here b hb).symm.trans z
        cases e
        subst hb
        exact ⟨ha, hl', vs, _, vi, ha⟩
      · have e := (off b hb).symm.trans z
        cases e
    · by_cases hb : b = a
      · exact hb
      · exact (z (off b hb)).elim
theorem walkG {l : PySem.W.OpenLaw} {n k : Nat} {q : Program} {loose : List Str} {XP : (Str → Option Value) → Heap → Prop} {YP : World → Heap → Prop} {d : DefRec} {K : Params → PySem.W.Frag} {sp : World → Sp} {x : Str}
    (hn : l.most = some n) (hn2 : n ≤ sizeLine) (hdf : d.params.defaults = []) (hr : Room k callerA) (hY : ∀ (w : World) (h : Heap), YP w h → (K w.params).In h)
    (F : ∀ (w : World) (mg : Str → Option Value) (fa : Addr) (h : Heap), (K w.params).In h → h.Ns mainGlobals mg → mg d.name = some (.ref fa) →
      ∃ fd : FuncData, (∀ (s : Shared) (u : Value), BindsTo s fd ⟨[u], []⟩ [(x, u)]) ∧ ∀ base : Heap, (K w.params).In base → base.Ns mainGlobals mg → FnG l.prog w (K w.params) mg base CX0 k fa fd [x] (sp w))
    (hsp : ∀ (w : World) (H : Hp) (a : Addr) (ns : List Int), ns.length ≤ n → Only H → SqL (K w.params) H a (ns.map V.int) → sp w [.ref a] H (fun v _ => v = .bl true) fun _ _ _ => False) :
    PySem.W.WalkO q loose XP YP l.row.toRowW d [] (fun f vs => PySem.call f vs) := by
  refine Att.attach_call hn hdf fun w s₀ s₁ mg mb fa o pm cd doc a vs ns G Y ho hd hcd hmg hobj hints hlen hg => ?_
  obtain ⟨fd, hb, hF⟩ := F w mg fa _ (hY w _ Y) G.T.g hmg
  exact lawG (hY w _ Y) G.T.g G.T.b G.T.builtins G.T.nolimit hg hobj hints (Nat.le_trans hlen hn2) hr hF hb (fun H hO hS => hsp w H a ns hlen hO hS) fun _ _ _ z => z
end Rs

set_option Elab.async false
set_option linter.all false
set_option maxRecDepth 100000
set_option maxHeartbeats 4000000
/-! readings, one lemma a letter; two tactics -/
namespace Rs
open PySem L2 PySem.Spec PyProof.Rows

/-- what stood stands, but for some objects -/
def Fm (S : List Addr) (H H' : Hp) : Prop := ∀ a o, H a = some o → a ∉ S → H' a = some o
section
variable {S T : List Addr} {H H' H1 : Hp} {a p : Addr} {o u : HO} {K : PySem.W.Frag} {xs : List V}
theorem Fm.refl (S : List Addr) (H : Hp) : Fm S H H := fun _ _ h _ => h
theorem Fm.trans (a : Fm S H H1) (b : Fm S H1 H') : Fm S H H' := fun x o h n => b x o (a x o h n) n
theorem Fm.wide (a : Fm S H H') (h : ∀ x ∈ S, x ∈ T) : Fm T H H' := fun x o e n => a x o e fun z => n (h x z)
theorem Fm.nil (a : Fm [] H H') : Fm T H H' := a.wide fun _ h => (List.not_mem_nil h).elim
theorem Fm.new (h : H p = none) : Fm S H (upd H p o) := fun a u e _ => by
  rw [upd_ne (ne_of_none e h)]
  exact e
theorem Fm.put (h : p ∈ S) : Fm S H (upd H p o) := fun a u e n => by
  rw [upd_ne (fun z => n (by rw [z]; exact h))]
  exact e
theorem Fm.thenNew (f : Fm S H H') (h : H' p = none) : Fm S H (upd H' p o) := f.trans (Fm.new h)
theorem Fm.thenPut (f : Fm S H H') (h : p ∈ S) : Fm S H (upd H' p o) := f.trans (Fm.put h)
/-- an object that was not there may change -/
theorem Fm.thenOwn (f : Fm S H H') (h : H p = none) : Fm S H (upd H' p o) := fun a u e n => by
  rw [upd_ne (ne_of_none e h)]
  exact f a u e n
theorem Fm.drop (f : Fm (p :: S) H H') (h : H p = none) : Fm S H H' := fun a u e n => f a u e fun z => (List.mem_cons.mp z).elim (fun q => ne_of_none e h q) n
theorem Fm.rd (f : Fm S H H') (h : Rd H a u) (n : a ∉ S) : Rd H' a u := by
  rcases h with h | ⟨o, h⟩
  · exact .inl (f _ _ h n)
  · exact .inr ⟨o, f _ _ h n⟩
theorem Fm.seqL (f : Fm S H H') (h : SqL K H a xs) (n : a ∉ S) : SqL K H' a xs := by
  rcases h with h | h
  · exact .inl (f.rd h n)
  · exact .inr h
theorem Fm.seqT (f : Fm S H H') (h : SqT K H a xs) (n : a ∉ S) : SqT K H' a xs := by
  rcases h with h | h
  · exact .inl (f.rd h n)
  · exact .inr h
theorem Fm.none (f : Fm S H H') (h : H' a = Option.none) (n : a ∉ S) : H a = Option.none := by
  cases q : H a with
  | none => rfl
  | some o => rw [f _ _ q n] at h; cases h
theorem not_in1 (h : a ≠ p) : a ∉ [p] := fun z => h (List.mem_singleton.mp z)
end

section
variable {σ : L2.St} {H : Hp} {K : PySem.W.Frag} {Q : VK} {QA : List V → Hp → Prop} {QT : Bool → Hp → Prop} {QO : Option Int → Hp → Prop} {ta tb te tc : TE} {t : TA} {c d : TT} {D : Ends} {s u : TS} {v x y : V} {vs : List V} {r : R2} {i j : Int} {p l b : Addr} {xs ys : List V} {k : Bool}
theorem w_var {i : Nat} (h : σ[i]? = some (some v)) (k : Q v H) : tVar i σ H Q := ⟨v, h, k⟩
theorem w_c (k : Q v H) : tC v σ H Q := k
theorem w_op (k : ta σ H fun x H1 => tb σ H1 fun y H2 => r x y H2 Q) : tOp r ta tb σ H Q := k
theorem w_un {r : V → Hp → VK → Prop} (k : ta σ H fun x H1 => r x H1 Q) : tUn r ta σ H Q := k
theorem w_test (k : te σ H fun x H' => ∃ k, x = .bl k ∧ QT k H') : tTest te σ H QT := k
theorem w_B (k : te σ H fun x H' => ∃ k, x = .bl k ∧ QT k H') : tB te σ H QT := k
theorem w_bl (h : QT k H) : ∃ c, V.bl k = .bl c ∧ QT c H := ⟨k, rfl, h⟩
theorem w_not (k : c σ H fun b H1 => QT (!b) H1) : tNot c σ H QT := k
theorem w_and (k : c σ H fun b H1 => if b = true then d σ H1 QT else QT false H1) : tAnd c d σ H QT := k
theorem w_or (k : c σ H fun b H1 => if b = true then QT true H1 else d σ H1 QT) : tOr c d σ H QT := k
theorem w_andV (k : ta σ H fun x H1 => ∃ c, x = .bl c ∧ if c = true then tb σ H1 Q else Q (.bl false) H1) : tAndV ta tb σ H Q := k
theorem w_orV (k : ta σ H fun x H1 => ∃ c, x = .bl c ∧ if c = true then Q (.bl true) H1 else tb σ H1 Q) : tOrV ta tb σ H Q := k
theorem w_notV (k : ta σ H fun x H1 => ∃ c, x = .bl c ∧ Q (.bl (!c)) H1) : tNotV ta σ H Q := k
theorem w_bool {P : Bool → Prop} (h : P k) : ∃ c, V.bl k = .bl c ∧ P c := ⟨k, rfl, h⟩
theorem w_if (k : c σ H fun b H1 => if b = true then ta σ H1 Q else tb σ H1 Q) : tIf c ta tb σ H Q := k
theorem w_cb {r : List V → Hp → VK → Prop} (k : t σ H fun vs H1 => r vs H1 Q) : tCB r t σ H Q := k
theorem w_nil (k : QA [] H) : tNil σ H QA := k
theorem w_cons (k : te σ H fun x H1 => t σ H1 fun xs H2 => QA (x :: xs) H2) : tCons te t σ H QA := k
theorem w_lst (k : t σ H fun xs H1 => xs.length ≤ sizeLine ∧ ∀ p, H1 p = none → Q (.ref p) (upd H1 p (.lst xs))) : tLst t σ H Q := k
theorem w_tup (k : t σ H fun xs H1 => xs.length ≤ sizeLine ∧ ∀ p, H1 p = none → Q (.ref p) (upd H1 p (.tup xs))) : tTup t σ H Q := k
theorem w_small {n : Nat} (h : n ≤ 100000) {P : Prop} (k : P) : n ≤ sizeLine ∧ P := ⟨Nat.le_trans h (by decide), k⟩
theorem w_sl {r : V → Option Int → Option Int → Hp → VK → Prop} {tl th : TO} (k : te σ H fun x H1 => tl σ H1 fun l H2 => th σ H2 fun u H3 => r x l u H3 Q) : tSl r te tl th σ H Q := k
theorem w_part (k : te σ H fun x H1 => ∃ i, x = .int i ∧ QO (some i) H1) : tPart te σ H QO := k
theorem w_intO {P : Int → Prop} (h : P i) : ∃ j, V.int i = .int j ∧ P j := ⟨i, rfl, h⟩
theorem w_nopart (k : QO none H) : tNoPart σ H QO := k
theorem w_asg {g : TG} (k : te σ H fun x H1 => g x σ H1 D.nx) : tAsg te g D σ H := k
theorem w_name {i : Nat} {QS : L2.St → Hp → Prop} (k : QS (σ.set i (some v)) H) : gName i v σ H QS := k
theorem w_gsub {t : TSet} {QS : L2.St → Hp → Prop} (k : ta σ H fun o H1 => tb σ H1 fun i H2 => t o i v H2 fun H3 => QS σ H3) : gSub ta tb t v σ H QS := k
theorem w_ret (k : te σ H D.rt) : tRet te D σ H := k
theorem w_retN (k : D.rt .non H) : tRetN D σ H := k
theorem w_drop (k : te σ H fun _ H1 => D.nx σ H1) : tDrop te D σ H := k
theorem w_seq (k : s { D with nx := u D } σ H) : tSeq s u D σ H := k
theorem w_next (k : D.nx σ H) : tNext D σ H := k
theorem w_ifS (k : c σ H fun b H1 => if b = true then s D σ H1 else u D σ H1) : tIfS c s u D σ H := k
theorem w_I0 {g : Int → Int → V} (k : Q (g i j) H) : rI0 g (.int i) (.int j) H Q := ⟨i, j, rfl, rfl, k⟩
theorem w_I {C : Int → Int → Prop} {g : Int → Int → V} (h : C i j) (k : Q (g i j) H) : rI C g (.int i) (.int j) H Q := ⟨i, j, rfl, rfl, h, k⟩
theorem w_eqI (k : Q (.bl (decide (i = j))) H) : rEq (.int i) (.int j) H Q := ⟨rfl, by
  have e : decide (V.int i = V.int j) = decide (i = j) := decide_eq_decide.mpr ⟨fun z => V.int.inj z, fun z => by rw [z]⟩
  rw [e]
  exact k⟩
theorem w_neI (k : Q (.bl (!decide (i = j))) H) : rNe (.int i) (.int j) H Q := ⟨rfl, by
  have e : decide (V.int i = V.int j) = decide (i = j) := decide_eq_decide.mpr ⟨fun z => V.int.inj z, fun z => by rw [z]⟩
  rw [e]
  exact k⟩
theorem w_eqS {x y : Str} (k : Q (.bl (decide (x = y))) H) : rEq (.str x) (.str y) H Q := ⟨rfl, by
  have e : decide (V.str x = V.str y) = decide (x = y) := decide_eq_decide.mpr ⟨fun z => V.str.inj z, fun z => by rw [z]⟩
  rw [e]
  exact k⟩
theorem w_neS {x y : Str} (k : Q (.bl (!decide (x = y))) H) : rNe (.str x) (.str y) H Q := ⟨rfl, by
  have e : decide (V.str x = V.str y) = decide (x = y) := decide_eq_decide.mpr ⟨fun z => V.str.inj z, fun z => by rw [z]⟩
  rw [e]
  exact k⟩
theorem w_ixL (h : SqL K H p xs) (ha : atI xs i = some v) (k : Q v H) : rIxL K (.ref p) (.int i) H Q := ⟨p, xs, i, v, rfl, rfl, h, ha, k⟩
theorem w_ixT (h : SqT K H p xs) (ha : atI xs i = some v) (k : Q v H) : rIxT K (.ref p) (.int i) H Q := ⟨p, xs, i, v, rfl, rfl, h, ha, k⟩
theorem w_cutL {lo hi : Option Int} (h : SqL K H p xs) (k : ∀ q, H q = none → Q (.ref q) (upd H q (.lst (cutV xs lo hi)))) : rSlL K (.ref p) lo hi H Q := ⟨p, xs, rfl, h, k⟩
theorem w_cat (h : H l = some (.lst xs)) (h2 : H b = some (.lst ys)) (hz : xs.length + ys.length ≤ sizeLine) (k : ∀ p, H p = none → Q (.ref p) (upd H p (.lst (xs ++ ys)))) : rCat (.ref l) (.ref b) H Q := ⟨l, b, xs, ys, rfl, rfl, h, h2, hz, k⟩
/-- int(n) of an int; abs(n); len of a list or tuple -/
def rInt : List V → Hp → VK → Prop := fun xs H Q => ∃ i, xs = [.int i] ∧ Q (.int i) H
def rAbs : List V → Hp → VK → Prop := fun xs H Q => ∃ i, xs = [.int i] ∧ Q (.int (if i < 0 then -i else i)) H
def rLenX (K : PySem.W.Frag) : List V → Hp → VK → Prop := fun xs H Q => ∃ p ys, xs = [.ref p] ∧ (SqL K H p ys ∨ SqT K H p ys) ∧ Q (.int ys.length) H
theorem w_int (k : Q (.int i) H) : rInt [.int i] H Q := ⟨i, rfl, k⟩
theorem w_abs (k : Q (.int (if i < 0 then -i else i)) H) : rAbs [.int i] H Q := ⟨i, rfl, k⟩
theorem w_lenL (h : SqL K H p xs) (k : Q (.int xs.length) H) : rLenX K [.ref p] H Q := ⟨p, xs, rfl, .inl h, k⟩
theorem w_lenT (h : SqT K H p xs) (k : Q (.int xs.length) H) : rLenX K [.ref p] H Q := ⟨p, xs, rfl, .inr h, k⟩
theorem w_setL {j : Nat} {QH : Hp → Prop} (h : H p = some (.lst xs)) (hi : ixN xs.length i = some j) (k : QH (upd H p (.lst (xs.set j v)))) : rSetL (.ref p) (.int i) v H QH := ⟨p, xs, i, j, rfl, rfl, h, hi, k⟩
theorem w_augS {tget : V → V → Hp → VK → Prop} {tip : TIp} {tset : TSet} (k : ta σ H fun o H1 => tb σ H1 fun i H2 => tget o i H2 fun x H3 => te σ H3 fun y H4 => tip x y H4 fun z H5 => tset o i z H5 fun H6 => D.nx σ H6) : tAugS ta tb te tget tip tset D σ H := k
theorem w_ip {f : Int → Int → Int} (k : Q (.int (f i j)) H) : ipI f (.int i) (.int j) H Q := ⟨i, j, rfl, rfl, k⟩
theorem w_fld {P : V → Prop} {f : Str} {C dx : Addr} {fs : List (Str × V)} (hc : Cls K C) (hn : NoAttr K C f) (ha : H p = some (.ins C dx fs)) (hl : fs.lookup f = some v) (k : P v) : ∃ a C dx fs v, V.ref p = .ref a ∧ H a = some (.ins C dx fs) ∧ Cls K C ∧ NoAttr K C f ∧ fs.lookup f = some v ∧ P v := ⟨p, C, dx, fs, v, rfl, ha, hc, hn, hl, k⟩
theorem w_tfld {f : Str} (k : ta σ H fun x H1 => ∃ a C dx fs v, x = .ref a ∧ H1 a = some (.ins C dx fs) ∧ Cls K C ∧ NoAttr K C f ∧ fs.lookup f = some v ∧ Q v H1) : tFld K ta f σ H Q := k
/-- an item of a list, read for a store -/
def rGetL (K : PySem.W.Frag) : V → V → Hp → VK → Prop := fun o i H Q => ∃ (p : Addr) (xs : List V) (j : Nat) (v : V), o = .ref p ∧ i = .int (j : Int) ∧ SqL K H p xs ∧ xs[j]? = some v ∧ Q v H
theorem w_getL {j : Nat} (hi : i = (j : Int)) (h : SqL K H p xs) (hx : xs[j]? = some v) (k : Q v H) : rGetL K (.ref p) (.int i) H Q := ⟨p, xs, j, v, rfl, by rw [hi], h, hx, k⟩
theorem w_cut {M : L2.St → Hp → Prop} (h : s { D with nx := M } σ H) (k : ∀ σ' H', M σ' H' → u D σ' H') : Evl.tCut s u D σ H := ⟨M, h, k⟩
/-- a loop over J; a list built over J -/
abbrev ForG (J : It) (g : TG) (tb : TS) (D : Ends) (σ : L2.St) (H : Hp) : Prop := ∃ W : Nat → Nat → L2.St → Hp → Prop, (∃ m, W 0 m σ H) ∧ ∀ i m σ H, W i m σ H →
  (J.stop i H ∧ D.nx σ H) ∨ (J.go i H ∧ ∃ N : L2.St → Hp → Prop, (∀ σ' H', N σ' H' → ∃ m', m' < m ∧ W (i + 1) m' σ' H') ∧ ∀ x H', J.yld i H x H' → g x σ H' fun σ2 H2 => tb { D with nx := N, ct := N, bk := D.nx } σ2 H2)
abbrev LcG (J : It) (g : TG) (tt : TT) (te : TE) (js : List Nat) (Q : VK) (σ : L2.St) (H : Hp) : Prop := ∀ D, H D = none → ∃ W : Nat → Nat → Hp → Prop, (∃ m, W 0 m (upd H D (.lst []))) ∧ ∀ i m H, W i m H →
  (J.stop i H ∧ Q (.ref D) H) ∨ (J.go i H ∧ ∃ Nx : Hp → Prop, (∀ H', Nx H' → ∃ m', m' < m ∧ W (i + 1) m' H') ∧ ∀ x H', J.yld i H x H' → g x (wipe σ js) H' fun σ2 H2 => wipe σ2 js = wipe σ js ∧ tt σ2 H2 fun b H3 =>
    if b = true then te σ2 H3 fun y H4 => ∃ acc, H4 D = some (.lst acc) ∧ acc.length < sizeLine ∧ Nx (upd H4 D (.lst (acc ++ [y]))) else Nx H3)
theorem w_forL {g : TG} {tb : TS} (k : te σ H fun x H1 => ∃ a, x = .ref a ∧ (∃ xs, SqL K H1 a xs) ∧ ForG (Itl K a) g tb D σ H1) : tFor (iList K te) g tb D σ H := k
theorem w_forT {g : TG} {tb : TS} (k : te σ H fun x H1 => ∃ a, x = .ref a ∧ (∃ xs, SqT K H1 a xs) ∧ ForG (Itt K a) g tb D σ H1) : tFor (iTup K te) g tb D σ H := k
theorem w_forR1 {g : TG} {tb : TS} (k : t σ H fun vs H1 => ∃ j : Int, vs = [.int j] ∧ -(2 ^ 62) ≤ j ∧ j < 2 ^ 62 ∧ ForG (Itr 0 j.toNat) g tb D σ H1) : tFor (iRng1 t) g tb D σ H := k
theorem w_forR2 {g : TG} {tb : TS} (k : t σ H fun vs H1 => ∃ i j : Int, vs = [.int i, .int j] ∧ (-(2 ^ 62) ≤ i ∧ i < 2 ^ 62 ∧ -(2 ^ 62) ≤ j ∧ j < 2 ^ 62) ∧ ForG (Itr i (j - i).toNat) g tb D σ H1) : tFor (iRng2 t) g tb D σ H := k
theorem w_forE {g : TG} {tb : TS} (k : t σ H fun vs H1 => ∃ a xs, vs = [.ref a] ∧ SqL K H1 a xs ∧ ForG (Ite K a) g tb D σ H1) : tFor (iEnum K t) g tb D σ H := k
theorem w_lcL {g : TG} {tt : TT} {js : List Nat} {tl : TE} (k : tl σ H fun x H1 => ∃ a, x = .ref a ∧ (∃ xs, SqL K H1 a xs) ∧ LcG (Itl K a) g tt te js Q σ H1) : tLc (iList K tl) g tt te js σ H Q := k
theorem w_lcR1 {g : TG} {tt : TT} {js : List Nat} (k : t σ H fun vs H1 => ∃ j : Int, vs = [.int j] ∧ -(2 ^ 62) ≤ j ∧ j < 2 ^ 62 ∧ LcG (Itr 0 j.toNat) g tt te js Q σ H1) : tLc (iRng1 t) g tt te js σ H Q := k
theorem w_insert {QN : VK} (h : H l = some (.lst xs)) (hz : xs.length < sizeLine) (h0 : 0 ≤ i) (h1 : i < 2 ^ 63) (k : QN .non (upd H l (.lst (xs.take i.toNat ++ [y] ++ xs.drop i.toNat)))) : ∃ (l' : Addr) (xs : List V) (i' : Int) (y' : V), V.ref l = .ref l' ∧ [V.int i, y] = [.int i', y'] ∧ H l' = some (.lst xs) ∧ xs.length < sizeLine ∧ 0 ≤ i' ∧ i' < 2 ^ 63 ∧
    QN .non (upd H l' (.lst (xs.take i'.toNat ++ [y'] ++ xs.drop i'.toNat))) := ⟨l, xs, i, y, rfl, rfl, h, hz, h0, h1, k⟩
theorem w_yes {σ2 : L2.St} {A : Hp → Prop} {B : Hp → Prop} (k : A H) : tYes σ2 H fun b H3 => if b = true then A H3 else B H3 := by
  show if true = true then A H else B H
  rw [if_pos rfl]
  exact k
theorem hp_ne {H : Hp} {a b : Addr} {o u : HO} (h : b ≠ a) (k : H b = some u) : upd H a o b = some u := (upd_ne h).trans k
theorem ne_n1 {H : Hp} {a b : Addr} {o : HO} (h' : H b = none) (h : H a = some o) : a ≠ b := ne_of_none h h'
theorem ne_n2 {H : Hp} {a b : Addr} {o : HO} (h' : H b = none) (h : H a = some o) : b ≠ a := (ne_of_none h h').symm
theorem w_bm {Ty : String} {r : V → List V → Hp → VK → Prop} (k : te σ H fun x H1 => tyV K Ty x H1 ∧ t σ H1 fun xs H2 => r x xs H2 Q) : tBM K Ty r te t σ H Q := k
theorem w_tyL {P : Prop} (h : SqL K H p xs) (k : P) : tyV K "list" (.ref p) H ∧ P := ⟨.inl ⟨rfl, _, h⟩, k⟩
theorem w_append (h : H l = some (.lst xs)) (hz : xs.length < sizeLine) (k : Q .non (upd H l (.lst (xs ++ [y])))) : rAppend (.ref l) [y] H Q := ⟨l, xs, y, rfl, rfl, h, hz, k⟩
theorem w_call {sp : Sp} {dvs : List V} {E : XK} (k : t σ H fun vs H1 => sp (vs ++ dvs) H1 Q E) : tCall sp dvs E t σ H Q := k
theorem w_meth {m : Str} {sp : Sp} {dvs : List V} {E : XK} {C : Addr} (k : ta σ H fun x H1 => ∃ a dx fs, x = .ref a ∧ H1 a = some (.ins C dx fs) ∧ fs.lookup m = none ∧ t σ H1 fun vs H2 => sp (x :: (vs ++ dvs)) H2 Q E) : tMeth C m sp dvs E ta t σ H Q := k
theorem w_methAt {m : Str} {C dx : Addr} {fs : List (Str × V)} {P : Prop} (ha : H p = some (.ins C dx fs)) (hl : fs.lookup m = none) (k : P) : ∃ a dx fs, V.ref p = .ref a ∧ H a = some (.ins C dx fs) ∧ fs.lookup m = none ∧ P := ⟨p, dx, fs, rfl, ha, hl, k⟩
theorem w_nget {P : Program} {w : World} (k : ta σ H fun x H1 => tb σ H1 fun y H2 => ∃ a b kvs k v, x = .ref a ∧ y = .ref b ∧ ND P w H2 a kvs ∧ NK H2 k (.ref b) ∧ k.depth ≤ 8 ∧ valV kvs k = some v ∧ Q v H2) : tNGet P w ta tb σ H Q := k
theorem w_nin {P : Program} {w : World} {neg : Bool} (k : ta σ H fun y H1 => tb σ H1 fun x H2 => ∃ a b kvs k, x = .ref a ∧ y = .ref b ∧ ND P w H2 a kvs ∧ NK H2 k (.ref b) ∧ k.depth ≤ 8 ∧ Q (.bl (if neg then !(valV kvs k).isSome else (valV kvs k).isSome)) H2) : tNIn P w neg ta tb σ H Q := k
theorem w_nput {P : Program} {w : World} (k : tc σ H fun v H1 => ta σ H1 fun x H2 => tb σ H2 fun y H3 => ∃ a b kvs k, x = .ref a ∧ y = .ref b ∧ ND P w H3 a kvs ∧ NK H3 k (.ref b) ∧ k.depth ≤ 8 ∧ kvs.length < sizeLine ∧
  ∀ H4, ND P w H4 a (putK kvs k v) → (∀ c, c ≠ a → H4 c = H3 c) → D.nx σ H4) : sNPut P w ta tb tc D σ H := k
theorem w_ite {c : Prop} [Decidable c] {A B : Prop} (h1 : c → A) (h2 : ¬ c → B) : if decide c = true then A else B := by
  by_cases e : c
  · rw [if_pos (decide_eq_true e)]; exact h1 e
  · rw [if_neg (by rw [decide_eq_false e]; exact Bool.false_ne_true)]; exact h2 e
theorem w_iteN {c : Prop} [Decidable c] {A B : Prop} (h1 : ¬ c → A) (h2 : c → B) : if (!decide c) = true then A else B := by
  by_cases e : c
  · rw [if_neg (by rw [decide_eq_true e]; exact Bool.false_ne_true)]; exact h2 e
  · rw [if_pos (by rw [decide_eq_false e]; rfl)]; exact h1 e
end
section
variable {X : Cx}
theorem c_int : CallR X (.type "int") rInt := fun pins s σ H xs us Q I r ⟨i, e, q⟩ => call_int1 pins s σ H xs us Q I r (.inl ⟨i, e, q⟩)
theorem c_abs : CallR X (.builtin "abs") rAbs := fun pins s σ H xs us Q I r h => call_abs pins s σ H xs us Q I r h
theorem c_len : CallR X (.builtin "len") (rLenX X.K) := fun pins s σ H xs us Q I r h => call_len_seq pins s σ H xs us Q I r h
theorem get_list : PGet X (rGetL X.K) := by
  intro pins s σ H o i ov iv Q I ro ri h
  obtain ⟨p, xs, j, v, rfl, rfl, hq, he, q⟩ := h
  cases ro
  obtain ⟨t, rfl⟩ := ri
  obtain ⟨its, r, pl, hz⟩ := I.list hq
  obtain ⟨w, ew, rw'⟩ := r.get he
  have hl := r.length
  have hn := line63
  have hj : j < xs.length := (List.getElem?_eq_some_iff.mp he).1
  exact wpAny_getItem_list pl.isList (by omega) (by omega) (by rw [Int.toNat_natCast]; simpa using ew) ⟨v, H, I, rw', q⟩
end
end Rs

set_option Elab.async false
set_option linter.all false
set_option maxRecDepth 100000
set_option maxHeartbeats 4000000
/-! the law's draws: _law_take, _law_some -/
namespace Rs
open PySem L2 PySem.Spec PyProof.Rows

def top (i : Nat) : Stmt := PySem.Challenge.pw_runshown_k20_graphs_of_terms.main.body.getD i (.Pass ⟨0, 0, 0, 0⟩)
abbrev sBag : Stmt := top 9
abbrev sTake : Stmt := top 10
abbrev sSome : Stmt := top 11

local macro_rules | `(tactic| walk_at "rs ne") => `(tactic| first | assumption | (apply Ne.symm; assumption) | (apply ne_n1; assumption; walk_at "rs hp") | (apply ne_n2; assumption; walk_at "rs hp"))
local macro_rules | `(tactic| walk_at "rs hp") => `(tactic| first | assumption | exact upd_same | (apply hp_ne; (walk_at "rs ne"); (walk_at "rs hp")))
local macro_rules | `(tactic| walk_at "rs sq") => `(tactic| first | assumption | (apply SqL.of; walk_at "rs hp") | (apply SqT.of; walk_at "rs hp"))
local macro_rules | `(tactic| walk_at "rs sz") => `(tactic| first | decide | (rw [sizeLine_eq]; simp; done) | (rw [sizeLine_eq]; simp; omega) | (rw [sizeLine_eq]; omega))
local macro_rules | `(tactic| walk_at "rs ar") => `(tactic| first | assumption | (show (0 : Int) < _; first | assumption | decide | omega) | exact Or.inr ⟨by decide, by decide⟩ | exact Or.inl ⟨by decide, by decide⟩ | exact Or.inl ⟨by omega, by omega⟩ | exact Or.inr ⟨by omega, by omega⟩ | exact ⟨by decide, by decide, by decide⟩ | exact ⟨by decide, by decide⟩ | exact ⟨by omega, by omega⟩)
local macro_rules | `(tactic| walk_at "rs r1") => `(tactic| with_reducible (first | refine w_var rfl ?_ | refine w_c ?_ | refine w_op ?_ | refine w_un ?_ | refine w_test ?_ | refine w_B ?_ | refine w_bool ?_ | refine w_not ?_ | refine w_cb ?_ | refine w_nil ?_ | refine w_cons ?_ | refine w_asg ?_ | refine w_name ?_ | refine w_seq ?_ | refine w_ret ?_ | refine w_drop ?_ | refine w_next ?_ | refine w_ifS ?_ | refine w_I0 ?_ | refine w_eqI ?_ | refine w_neI ?_ | refine w_int ?_ | refine w_abs ?_ | refine w_sl ?_ | refine w_part ?_ | refine w_intO ?_ | refine w_nopart ?_ | refine w_gsub ?_ | refine w_augS ?_ | refine w_ip ?_ | refine w_lst ?_ | refine w_tup ?_ | refine w_if ?_ | refine w_and ?_ | refine w_or ?_ | refine w_tfld ?_ | refine w_forL ?_ | refine w_forT ?_ | refine w_forR1 ?_ | refine w_forR2 ?_ | refine w_forE ?_ | refine w_lcL ?_ | refine w_lcR1 ?_ | refine w_bm ?_ | refine w_call ?_ | refine w_meth ?_ | refine w_nget ?_ | refine w_nin ?_ | refine w_nput ?_ | refine w_eqS ?_ | refine w_neS ?_))
local macro_rules | `(tactic| walk_at "rs r2") => `(tactic| first | (walk_at "rs r1") | ((with_reducible refine' w_ixL ?h1 ?h2 ?h3); (case h1 => walk_at "rs sq"); (case h2 => first | rfl | exact atI_nat (j := 0) rfl | exact atI_nat (j := 1) rfl | exact atI_nat (j := 2) rfl)) | ((with_reducible refine' w_ixT ?h1 ?h2 ?h3); (case h1 => walk_at "rs sq"); (case h2 => first | rfl | exact atI_nat (j := 0) rfl | exact atI_nat (j := 1) rfl | exact atI_nat (j := 2) rfl)) | ((with_reducible refine' w_cutL ?h1 ?_); (case h1 => walk_at "rs sq"); intro q hq) | ((with_reducible refine' w_cat ?h1 ?h2 ?h3 ?_); (case h1 => walk_at "rs hp"); (case h2 => walk_at "rs hp"); (case h3 => walk_at "rs sz"); intro q hq) | ((with_reducible refine' w_small ?h1 ?_); (case h1 => exact Nat.le_of_ble_eq_true rfl); intro q hq) | ((with_reducible refine' w_setL ?h1 ?h2 ?_); (case h1 => walk_at "rs hp"); (case h2 => rfl)) | ((with_reducible refine' w_getL ?h0 ?h1 ?h2 ?_); (case h0 => rfl); (case h1 => walk_at "rs sq"); (case h2 => rfl)) | ((with_reducible refine' w_lenL ?h1 ?_); (case h1 => walk_at "rs sq")) | ((with_reducible refine' w_lenT ?h1 ?_); (case h1 => walk_at "rs sq")) | ((with_reducible refine' w_fld ?h1 ?h2 ?h3 ?h4 ?_); (case h1 => assumption); (case h2 => assumption); (case h3 => walk_at "rs hp"); (case h4 => assumption)) | ((with_reducible refine' w_methAt ?h1 ?h2 ?_); (case h1 => walk_at "rs hp"); (case h2 => assumption)) | ((with_reducible refine' w_tyL ?h1 ?_); (case h1 => walk_at "rs sq")) | ((with_reducible refine' w_append ?h1 ?h2 ?_); (case h1 => walk_at "rs hp"); (case h2 => assumption)) | ((with_reducible refine' w_I ?h1 ?_); (case h1 => walk_at "rs ar")))
local macro_rules | `(tactic| walk_at "rs rd") => `(tactic| repeat (walk_at "rs r2"))

/-- the bag of draws: at b, its cells at c -/
def Bag (H : Hp) (b c : Addr) : Prop := ∃ (cur seed ix : Int) (ns : List Int), H b = some (.lst [.int cur, .int seed, .int ix, .ref c]) ∧ 0 ≤ cur ∧ 0 ≤ seed ∧ H c = some (.lst (ns.map V.int)) ∧ (∀ n ∈ ns, 0 ≤ n) ∧ ns.length ≤ 100
theorem Bag.ne {H : Hp} {b c : Addr} (h : Bag H b c) : b ≠ c := by
  obtain ⟨cur, seed, ix, ns, h1, _, _, h2, _⟩ := h
  intro e
  rw [e, h2] at h1
  have h1' := HO.lst.inj (Option.some.inj h1)
  match ns, h1' with
  | [], z => cases z
  | [_], z => cases z
  | [_, _], z => cases z
  | [_, _, _], z => cases z
  | _ :: _ :: _ :: _ :: _, z =>
    injection z with _ z
    injection z with _ z
    injection z with _ z
    injection z with z _
    cases z
theorem Bag.frame {S : List Addr} {H H' : Hp} {b c : Addr} (h : Bag H b c) (f : Fm S H H') (hb : b ∉ S) (hc : c ∉ S) : Bag H' b c := by
  obtain ⟨cur, seed, ix, ns, h1, p1, p2, h2, p3, p4⟩ := h
  exact ⟨cur, seed, ix, ns, f _ _ h1 hb, p1, p2, f _ _ h2 hc, p3, p4⟩
def spTake : Sp := fun vs H Q _ => ∃ (b c : Addr) (many : Int), vs = [.ref b, .int many] ∧ 0 < many ∧ many < 1000000 ∧ Bag H b c ∧ ∀ (v : Int) (H' : Hp), 0 ≤ v → v < many → Bag H' b c → Fm [b] H H' → Q (.int v) H'
def spSome (K : PySem.W.Frag) : Sp := fun vs H Q _ => ∃ (b c p : Addr) (xs : List V), vs = [.ref b, .ref p] ∧ xs ≠ [] ∧ xs.length < 1000000 ∧ p ≠ b ∧ (SqL K H p xs ∨ SqT K H p xs) ∧ Bag H b c ∧
  ∀ (v : V) (H' : Hp), v ∈ xs → Bag H' b c → Fm [b] H H' → Q v H'
structure TxtB (K : PySem.W.Frag) (mg : Str → Option Value) : Prop where
  int : mg "int" = none
  len : mg "len" = none

theorem cutV_len (xs : List V) (lo hi : Option Int) : (cutV xs lo hi).length ≤ xs.length := by
  unfold cutV
  rw [List.length_take, List.length_drop]
  omega
theorem cutV_mem {xs : List V} {lo hi : Option Int} {x : V} (h : x ∈ cutV xs lo hi) : x ∈ xs := List.mem_of_mem_drop (List.mem_of_mem_take h)
/-- the first cell left, or 0 -/
theorem first_cell {ns : List Int} (p3 : ∀ n ∈ ns, 0 ≤ n) (ix : Int) : ∃ cell : Int, 0 ≤ cell ∧ atI (cutV (ns.map V.int) (some ix) none ++ [V.int 0]) 0 = some (.int cell) := by
  cases e : cutV (ns.map V.int) (some ix) none with
  | nil => exact ⟨0, by decide, rfl⟩
  | cons y ys =>
    have hm : y ∈ ns.map V.int := cutV_mem (lo := some ix) (hi := none) (by rw [e]; exact List.mem_cons_self)
    obtain ⟨n, hn, rfl⟩ := List.mem_map.mp hm
    refine ⟨n, p3 n hn, ?_⟩
    exact atI_nat (j := 0) rfl
section
variable {P : Program} {w : World} {K : PySem.W.Frag} {mg : Str → Option Value} {base : Heap}
theorem scTake : FnScope ["bag", "many", "cell", "stirred", "value", "begin", "second"] ["bag", "many"] (defScope sTake) := ⟨rfl, rfl, rfl, by decide +kernel, rfl, by decide +kernel, by decide +kernel⟩
theorem ok_take {f : Addr} {fd : FuncData} (F : Fun K "_law_take" "_law_take" sTake f fd) (T : TxtB K mg) : FnOk P w K mg base CX0 1 f fd ["bag", "many"] spTake := by
  refine F.ok scTake (fun vs H Q E h => ?_) (fun cdv A outer s H vs Q E hr h => ?_)
  · obtain ⟨b, c, many, rfl, _⟩ := h
    rfl
  · obtain ⟨b, c, many, rfl, hm, hm2, B, k⟩ := h
    have nd := scTake.nd
    refine ⟨_, Evl.pss_cut (ps_if (pt_cmpR op_eq (pe_ix ix_list (pv 0) pe_int (fun _ _ => rfl)) pe_int (nomark _))
        (pss_cons (ps_set (i := 2) nd rfl (Or.inl rfl) (pe_ix ix_list (pe_op op_cat (pe_slice sl_list (pe_ix ix_list (pv 0) pe_int (fun _ _ => rfl)) (po_some (pe_ix ix_list (pv 0) pe_int (fun _ _ => rfl))) po_none) (pe_lst (pa_cons pe_int pa_nil))) pe_int (fun _ _ => rfl)))
        (pss_cons (ps_augS (pv 0) pe_int get_list pe_int ip_add set_list)
        (pss_cons (ps_if (pt_cmpR op_ge (pv 2) (pe_op op_pow pe_int pe_int) (nomark _)) (pss_one (ps_asg (pv 2) (pg_sub (pv 0) pe_int set_list))) pss_nil)
        (pss_cons (ps_set (i := 3) nd rfl (Or.inl rfl) (pe_op op_add (pe_op op_add (pe_op op_mul (pe_ix ix_list (pv 0) pe_int (fun _ _ => rfl)) pe_int) (pe_op op_mod (pe_callTy c_int (by rfl) T.int (by decide +kernel) (pa_cons (pv 2) pa_nil)) pe_int)) (pe_op op_mul pe_int (pe_ix ix_list (pv 0) pe_int (fun _ _ => rfl)))))
        (pss_one (ps_asg (pe_op op_mod (pe_callTy c_int (by rfl) T.int (by decide +kernel) (pa_cons (pv 3) pa_nil)) pe_int) (pg_sub (pv 0) pe_int set_list))))))) pss_nil)
      (pss_cons (ps_if (pt_cmpR op_gt (pe_ix ix_list (pv 0) pe_int (fun _ _ => rfl)) pe_int (nomark _))
        (pss_cons (ps_set (i := 4) nd rfl (Or.inl rfl) (pe_op op_mod (pe_callTy c_int (by rfl) T.int (by decide +kernel) (pa_cons (pe_ix ix_list (pv 0) pe_int (fun _ _ => rfl)) pa_nil)) (pv 1)))
        (pss_cons (ps_asg (pe_op op_fdiv (pe_callTy c_int (by rfl) T.int (by decide +kernel) (pa_cons (pe_ix ix_list (pv 0) pe_int (fun _ _ => rfl)) pa_nil)) (pv 1)) (pg_sub (pv 0) pe_int set_list))
        (pss_one (ps_ret (pv 4))))) pss_nil)
      (pss_cons (ps_set (i := 5) nd rfl (Or.inl rfl) (pe_op op_mod (pe_callTy c_int (by rfl) T.int (by decide +kernel) (pa_cons (pe_op op_mul (pe_op op_add (pe_ix ix_list (pv 0) pe_int (fun _ _ => rfl)) pe_int) pe_int) pa_nil)) pe_int))
      (pss_cons (ps_set (i := 6) nd rfl (Or.inl rfl) (pe_op op_mod (pe_callTy c_int (by rfl) T.int (by decide +kernel) (pa_cons (pe_op op_mul (pe_op op_mod (pe_callTy c_int (by rfl) T.int (by decide +kernel) (pa_cons (pe_op op_mul (pv 5) (pv 5)) pa_nil)) pe_int) pe_int) pa_nil)) pe_int))
      (pss_one (ps_ret (pe_op op_mod (pe_callTy c_int (by rfl) T.int (by decide +kernel) (pa_cons (pe_op op_fdiv (pv 6) pe_int) pa_nil)) (pv 1))))))), ?_⟩
    obtain ⟨cur, seed, ix, ns, h1, p1, p2, h2, p3, p4⟩ := id B
    have hbc : b ≠ c := B.ne
    have hcb : c ≠ b := Ne.symm hbc
    obtain ⟨cell, c0, hcell⟩ := first_cell p3 ix
    have hz : (cutV (ns.map V.int) (some ix) none).length + [V.int 0].length ≤ sizeLine := by
      have q := cutV_len (ns.map V.int) (some ix) none
      rw [List.length_map] at q
      rw [sizeLine_eq]
      simp
      omega
    refine w_cut (M := fun σ' H' => ∃ x2 x3, σ' = [some (.ref b), some (.int many), x2, x3, none, none, none] ∧ Bag H' b c ∧ Fm [b] H H') ?_ ?_
    · walk_at "rs rd"
      refine w_ite (fun e0 => ?_) (fun e0 => ?_)
      · walk_at "rs rd"
        refine w_cat (by walk_at "rs hp") (by walk_at "rs hp") hz fun q hq => ?_
        walk_at "rs rd"
        refine w_ixL (by walk_at "rs sq") hcell ?_
        walk_at "rs rd"
        refine w_ite (fun e1 => ?_) (fun e1 => ?_)
        · walk_at "rs rd"
          refine ⟨_, _, rfl, ⟨cell, _, _, ns, by walk_at "rs hp", c0, ?_, by walk_at "rs hp", p3, p4⟩, ?_⟩
          · exact Int.emod_nonneg _ (by decide)
          · exact ((((((Fm.refl _ _).thenNew (by assumption)).thenNew (by assumption)).thenNew (by assumption)).thenPut List.mem_cons_self).thenPut List.mem_cons_self).thenPut List.mem_cons_self
        · walk_at "rs rd"
          refine ⟨_, _, rfl, ⟨cur, _, _, ns, by walk_at "rs hp", p1, ?_, by walk_at "rs hp", p3, p4⟩, ?_⟩
          · exact Int.emod_nonneg _ (by decide)
          · exact (((((Fm.refl _ _).thenNew (by assumption)).thenNew (by assumption)).thenNew (by assumption)).thenPut List.mem_cons_self).thenPut List.mem_cons_self
      · walk_at "rs rd"
        exact ⟨none, none, rfl, B, Fm.refl _ _⟩
    · rintro σ' H' ⟨x2, x3, rfl, B', f'⟩
      clear h1 h2
      obtain ⟨cur', seed', ix', ns', h1, p1', p2', h2, p3', p4'⟩ := id B'
      walk_at "rs rd"
      refine w_ite (fun e0 => ?_) (fun e0 => ?_)
      · walk_at "rs rd"
        refine k _ _ (Int.emod_nonneg _ (by omega)) (Int.emod_lt_of_pos _ hm) ⟨_, seed', ix', ns', by walk_at "rs hp", Int.ediv_nonneg p1' (by omega), p2', by walk_at "rs hp", p3', p4'⟩ (f'.thenPut List.mem_cons_self)
      · walk_at "rs rd"
        refine k _ _ (Int.emod_nonneg _ (by omega)) (Int.emod_lt_of_pos _ hm) B' f'
end
end Rs

set_option Elab.async false
set_option linter.all false
set_option maxRecDepth 100000
set_option maxHeartbeats 4000000
/-! TooLarge(what, limit): its __init__ asks super().__init__(what, limit), then stores both -/
namespace Rs
open PySem L2 PySem.Spec PyProof.Rows PySem.W PySem.HandSPX PySem.Calls
def topX (i : Nat) : Stmt := PySem.Challenge.pw_runshown_k20_graphs_of_terms.main.body.getD i (.Pass ⟨0, 0, 0, 0⟩)
abbrev sTL : Stmt := inClass (topX 4) 0
/-- what the written part says of TooLarge, at C, and of its __init__, at fI -/
structure TlTxt (prog : Program) (K : Frag) (mg : Str → Option Value) (C fI : Addr) : Prop where
  gC : mg "TooLarge" = some (.ref C)
  mS : mg "super" = none
  tp : (prog.main.scope.names.lookup ("super" : Str)).isSome = false
  cls : ∃ nm q N bs bm sn sub ab col dd k0 k1 k2 k3 k5, K.lookup C = some (excClassObj nm q C N bs bm true sn sub ab col dd k0 k1 k2 k3 k5 "ValueError.__new__") ∧ refsVE bm = true ∧ alongIn K "__init__" bm = some (some (.builtin "ValueError.__init__"))
  sa : findIn K (.ref C) "__setattr__" = some (some (.builtin "object.__setattr__"))
  ga : findIn K (.ref C) "__getattribute__" = some (some (.builtin "BaseException.__getattribute__"))
  gg : findIn K (.ref C) "__getattr__" = some none
  noW : findIn K (.ref C) "what" = some none
  noL : findIn K (.ref C) "limit" = some none
  iC : findIn K (.ref C) "__init__" = some (some (.ref fI))
  tC : typeIn K (.ref fI) = some (.type "function")
  kC : keepIn K (.ref C) = true
  exC : subIn K (.ref C) (.type "BaseException") = some true
  veC : subIn K (.ref C) (.type "ValueError") = some true
  tyC : typeIn K (.ref C) = some (.type "type")
  hdC : hasDictIn K C = true
  te : exmOne K (.ref C) (.ref C) = some true
  me : mroIn K C (.ref C) = some true
  st : nsIn K cStatics "thirdparty.any" = some none
  fn : ∃ (oc : Value) (od : Option Addr) (doc pm : Value) (an : Option Addr) (cda cc : Addr) (ct : Value) (osl : Array (Option Value)) (ccl cl : Value) (cdd cld : Option Addr) (ccs csl : Array (Option Value)) (vs : Array Value) (file : Str) (tf : Tok),
    K.lookup fI = some ⟨oc, od, .func (ksFn "__init__" "TooLarge.__init__" (defArgs sTL) (defBody sTL) (defScope sTL) .none .none doc pm an (.ref cda) ct cc), osl⟩ ∧ codeIn K (.ref cda) "TooLarge.__init__" = true ∧
    K.lookup cda = some ⟨ccl, cdd, .fields vs, ccs⟩ ∧ vs[2]? = some (.str file tf) ∧ ((prog.main.file : Str) == file) = true ∧ K.lookup cc = some ⟨cl, cld, .cell (some (.ref C)), csl⟩
theorem two_size (v u : Value) : [v, u].length ≤ sizeLine := by
  rw [sizeLine_eq]
  exact (by decide : 2 ≤ 16777216)
/-- what __init__ leaves of a fresh exception at x -/
structure TlEnd (h h' : Heap) (x C dx t1 : Addr) (v u : Value) : Prop where
  keep : ∀ b o, b ≠ x → h.get? b = some o → h'.get? b = some o
  obj : h'.get? x = some { cls := .ref C, dict := some dx, data := .fields #[.ref t1, .none, .none, .none, .bool false, .none] }
  dbig : h.objs.size ≤ dx
  dne : dx ≠ x
  ns : h'.Ns1 dx (fun y => if y = "limit" then some u else if y = "what" then some v else none)
section
variable {prog : Program} {w : World} {A : Around} {E : Value → Shared → Prop} {R : Result → Shared → Prop} {K : Frag} {mg : Str → Option Value} {C fI : Addr}
theorem call_mw {nm q : Str} {N : Addr} {bs bm : List Value} {sn : List Str} {sub : List Value} {ab : Bool} {col : Option Bool} {dd : Option Addr} {k0 k1 k2 k3 k5 : Option Value} {h : Heap} {g : Array GenState} {d : Drawn} {t : Nat} {os : OsState}
    {e uu t0 : Addr} {rest : List Value} {Q : Value → Shared → Prop} (hT : ∀ Y : String, bm.contains (.type Y) = veTail.contains (.type Y))
    (hC : h.get? C = some (excClassObj nm q C N bs bm true sn sub ab col dd k0 k1 k2 k3 k5 "ValueError.__new__")) (he : h.get? e = some (excO C t0)) (hu : h.get? uu = some (kxs_mw "ValueError.__init__" e)) (hz : rest.length ≤ sizeLine)
    (hq : ∀ h' t1, (∀ b o, b ≠ e → h.get? b = some o → h'.get? b = some o) → h'.get? e = some (excO C t1) → Q .none ⟨h', g, d, t, os⟩) :
    wpAny (model prog w) A (call (.ref uu) rest) Q E ⟨h, g, d, t, os⟩ := by
  refine wpAny_call (codeAny_of_tree ?_)
  show wpAny _ A.in1 (callAny (.ref uu) ⟨rest, []⟩) _ _ _
  simp only [callAny]
  refine wpAny_bind (wpAny_load hu ?_)
  have e1 : (Value.type "method-wrapper" == Value.type "method" || Value.type "method-wrapper" == Value.type "builtin_function_or_method" || Value.type "method-wrapper" == Value.type "method-wrapper") = true := by decide
  simp only [kxs_mw, e1, if_true]
  refine KFB.if_so (by decide) ?_
  refine wpAny_bind (check_bound_init F.excBase_ValueError.toExcCallFacts hC he rfl ?_)
  refine wpAny_bind (wpAny_pure (wpAny_pure ?_))
  refine ⟨plainId_quiet F.excBase_ValueError.init.plain _, codeAny_builtin F.excBase_ValueError.initEntry ?_⟩
  exact exc_init_tree (cls := .ref C) (t0 := t0) (dv := none) (c2 := .none) (c3 := .none) (b4 := .bool false) he hz fun h' k e' _ => hq h' _ k e'
theorem ldF {M : Model} {s : Shared} {env : Env} {m : Str → Option Value} {x : Str} {pos : Pos} {v : Value} {Q : Value → Shared → Prop} (hn : s.heap.Ns env.locals m) (hv : m x = some v) (h : Q v s)
    (hk : env.scope.kind = .function) (hl : env.kindOf x = some .local) (hd : (x == ("__debug__" : Str)) = false) : wpAny M A (eval (.Name x pos) env) Q E s := wpAny_Name (wpAny_loadName_local hk hl hn hv h) hd
theorem tl_init {s : Shared} (T : TlTxt prog K mg C fI) {x t0 : Addr} {v u : Value} (X : K.In s.heap) (hlim : s.heap.NoLimit) (G : s.heap.Ns mainGlobals mg) (B : ∃ mb, s.heap.Ns builtinsNs mb ∧ ∀ y : Str, y ≠ "__name__" → mb y = bootBuiltins y)
    (hx : s.heap.get? x = some (excO C t0)) (hnx : K.lookup x = none) (hroom : A.depth < recursionLimit)
    (hq : ∀ h' tk dx t1, TlEnd s.heap h' x C dx t1 v u → R (.ok (.ret .none)) { s with heap := h', toks := tk }) :
    codeAny (model prog w) A (.call (.ref fI) ⟨[.ref x, v, u], []⟩) R s := by
  obtain ⟨oc, od, doc, pm, an, cda, cc, ct, osl, ccl, cl, cdd, cld, ccs, csl, vs, file, tf, ho, hcd, hcda, hvs, hfile, hcc⟩ := T.fn
  obtain ⟨nm, q, N, bs, bm, sn, sub, ab, col, dd, k0, k1, k2, k3, k5, hC, hbm, hal⟩ := T.cls
  obtain ⟨mb, hmb, hbb⟩ := B
  have hcl : clsIn K C = some { name := nm, bases := bs, mro := .ref C :: bm, ns := N, qualname := q, hasDict := true, slotNames := sn, subclasses := sub, abstract := ab, collection := col, hasDel := false } := by unfold clsIn; rw [hC] <;> rfl
  have hcel : ∀ y ∈ (defScope sTL).names, y.2 ≠ .cell := by decide +kernel
  have hloc : ∀ n ∈ (["self", "what", "limit"] : List Str), (defScope sTL).names.lookup n = some .local := by decide +kernel
  have hlo : ∀ y ∈ ([("self", .ref x), ("what", v), ("limit", u)] : List (Str × Value)), (defScope sTL).names.lookup y.1 = some .local := fun y hy => by
    rcases List.mem_cons.mp hy with e | hy
    · rw [e]; exact hloc _ (by simp)
    rcases List.mem_cons.mp hy with e | hy
    · rw [e]; exact hloc _ (by simp)
    rcases List.mem_cons.mp hy with e | hy
    · rw [e]; exact hloc _ (by simp)
    · cases hy
  refine ks_codeAny_call_defAt (binds := [("self", .ref x), ("what", v), ("limit", u)]) hroom (X _ _ ho) rfl hlim (codeRec_of X hcd) rfl (BindsTo.of_eq rfl) hcel hlo (fun h₁ hn k => ?_) rfl rfl rfl
  have hxL : s.heap.objs.size ≠ x := Nat.ne_of_gt (Heap.lt_size hx)
  have X₁ : K.In h₁ := X.keeps k
  have hx₁ := k _ _ hx
  have hxC : x ≠ C := fun z => by
    rw [z, hC] at hnx
    cases hnx
  have I : InstAt h₁ x (excO C t0) C none := ⟨hx₁, rfl, rfl, trivial⟩
  refine ks_wpAt_execs_cons (ks_wpAt_Expr_any (ks_wpAt_MethodCall ?_))
  have kS : (defScope sTL).names.lookup ("super" : Str) = some .globalImplicit := by decide +kernel
  have kK : (defScope sTL).names.lookup ("__class__" : Str) = some .free := by decide +kernel
  have k1' : (defScope sTL).names.lookup ("self" : Str) = some .local := hloc _ (by simp)
  have k2' : (defScope sTL).names.lookup ("what" : Str) = some .local := hloc _ (by simp)
  have k3' : (defScope sTL).names.lookup ("limit" : Str) = some .local := hloc _ (by simp)
  have vS : (fun y => ([("self", Value.ref x), ("what", v), ("limit", u)] : List (Str × Value)).reverse.lookup y) "self" = some (Value.ref x) := by
    show List.lookup ("self" : Str) [("limit", u), ("what", v), ("self", Value.ref x)] = _
    simp [List.lookup, show (("self" : Str) == "limit") = false by decide +kernel, show (("self" : Str) == "what") = false by decide +kernel]
  have vW : (fun y => ([("self", Value.ref x), ("what", v), ("limit", u)] : List (Str × Value)).reverse.lookup y) "what" = some v := by
    show List.lookup ("what" : Str) [("limit", u), ("what", v), ("self", Value.ref x)] = _
    simp [List.lookup, show (("what" : Str) == "limit") = false by decide +kernel]
  have vL : (fun y => ([("self", Value.ref x), ("what", v), ("limit", u)] : List (Str × Value)).reverse.lookup y) "limit" = some u := by
    show List.lookup ("limit" : Str) [("limit", u), ("what", v), ("self", Value.ref x)] = _
    simp [List.lookup]
  generalize (fun y => ([("self", Value.ref x), ("what", v), ("limit", u)] : List (Str × Value)).reverse.lookup y) = mm at hn vS vW vL
  refine ks_wpAt_super_base (ar := { arg := "self", annotation := none, pos := ⟨13, 17, 13, 21⟩ }) kS kK (by decide +kernel) rfl (X₁ _ _ ho) rfl rfl rfl (X₁ _ _ hcda) rfl hvs hfile T.tp ?_
  refine ks_loadName_global rfl kS (loadGlobal_builtin (G.keeps k) T.mS (hmb.keeps k) ((hbb _ (by decide +kernel)).trans (by first | rfl | kernel_rfl)) ⟨rfl, ?_⟩)
  refine wpAny_loadName_free rfl kK rfl ⟨_, X₁ _ _ hcc, rfl⟩ ?_
  refine wpAny_loadName_local rfl k1' hn vS ?_
  refine ks_wpAny_isType_cls (X₁ _ _ hC) rfl ⟨rfl, ?_⟩
  refine ks_wpAny_call_super (X₁ _ _ hC) rfl hx₁ rfl (fun c => nofun) (looks_mroIn X₁ T.me) (fun h₂ e₂ k₂ => ?_)
  have X₂ : K.In h₂ := X₁.keeps k₂
  have hx₂ := k₂ _ _ hx₁
  have I₂ : InstAt h₂ x (excO C t0) C none := ⟨hx₂, rfl, rfl, trivial⟩
  have hI : Looks (model prog w) h₂ (isInstance (.ref x) (.type "ValueError")) true := I₂.type.andThen (looks_subIn X₂ T.veC)
  refine kxs_getMethod kxs_ValueError e₂ (looks_opaque X₂ T.st) (l₀ := .ref C :: bm) (fun A Q E s k q => wpAny_bind ((looks_clsIn X₂ hcl) A _ E s k (wpAny_pure q))) rfl X₂ (by
    rw [PySem.ESX.drop_own]
    exact hal) hI hxC (by decide +kernel) ?_
  have k₃ : ∀ b o, h₂.get? b = some o → (h₂.push (kxs_mw "ValueError.__init__" x)).get? b = some o := fun b o e => Heap.get?_push_of_some _ e
  have hu₃ : (h₂.push (kxs_mw "ValueError.__init__" x)).get? h₂.objs.size = some (kxs_mw "ValueError.__init__" x) := Heap.get?_push_at rfl rfl
  have hn₃ := (hn.keeps k₂).keeps k₃
  refine kxs_callWith (i := "ValueError.__init__") (x := x) (by rfl) (evalArgs_plain ?_)
  refine Calls.spliced_cons (ldF hn₃ vW ?_ rfl k2' (by decide +kernel))
  refine Calls.spliced_cons (ldF hn₃ vL ?_ rfl k3' (by decide +kernel))
  refine Calls.spliced_nil ⟨hu₃, ?_⟩
  have hC₃ := k₃ _ _ (X₂ _ _ hC)
  refine call_mw (fun Y => refsVE_contains Y bm hbm) hC₃ (k₃ _ _ hx₂) hu₃ (two_size v u) fun h₄ t1 k₄ hx₄ => ?_
  have kk : ∀ b o, b ≠ x → h₁.get? b = some o → h₄.get? b = some o := fun b o hb e => k₄ b o hb (k₃ _ _ (k₂ _ _ e))
  have keptX : ∀ {h' : Heap}, (∀ b o, b ≠ x → h₁.get? b = some o → h'.get? b = some o) → K.In h' := fun {h'} kx b o e => kx b o (fun z => by rw [z, hnx] at e; cases e) (X₁ b o e)
  have X₄ : K.In h₄ := keptX kk
  have hLx : s.heap.objs.size ≠ x := hxL
  have hn₄ : h₄.Ns s.heap.objs.size mm := by
    obtain ⟨oL, es, ep, hL, r⟩ := hn
    exact ⟨oL, es, ep, kk _ _ hLx hL, r⟩
  -- self.what = what
  refine ks_wpAt_execs_cons (wpAt_of_wpAny (plainObj_wpAny_Assign_Attribute ?_))
  refine ldF hn₄ vW (ldF hn₄ vS ?_ rfl k1' (by decide +kernel)) rfl k2' (by decide +kernel)
  refine set_plain X₄ (ox := excO C t1) (od := none) ⟨hx₄, rfl, rfl, trivial⟩ T.sa ?_
  refine HandSPX.exc_osa X₄ hx₄ hcl (show refsVE (.ref C :: bm) = true from hbm) rfl T.noW (fun h₅ tk₅ dx k₅ dn dne hx₅ hn₅ => ?_)
  have kk5 : ∀ b o, b ≠ x → h₁.get? b = some o → h₅.get? b = some o := fun b o hb e => k₅ b o hb (kk b o hb e)
  have X₅ : K.In h₅ := keptX kk5
  have hL₄ : s.heap.objs.size < h₄.objs.size := hn₄.lt
  have dn' : h₄.objs.size ≤ dx := dn
  have hn₅' : h₅.Ns s.heap.objs.size mm := by
    obtain ⟨oL, es, ep, hL, r⟩ := hn₄
    exact ⟨oL, es, ep, k₅ _ _ hLx hL, r⟩
  -- self.limit = limit
  refine ks_wpAt_execs_cons (wpAt_of_wpAny (plainObj_wpAny_Assign_Attribute ?_))
  refine ldF hn₅' vL (ldF hn₅' vS ?_ rfl k1' (by decide +kernel)) rfl k3' (by decide +kernel)
  obtain ⟨oD, _, _, hoD, _⟩ := id hn₅
  refine set_plain X₅ (ox := { cls := .ref C, dict := some dx, data := .fields #[.ref t1, .none, .none, .none, .bool false, .none] }) (od := some oD) ⟨hx₅, rfl, rfl, hoD⟩ T.sa ?_
  have hw5 : Within (fun y => if y = "what" then some v else none) ["what"] := fun y hy => by
    by_cases e : y = "what"
    · rw [e]; exact List.mem_singleton.mpr rfl
    · exact absurd (if_neg e) hy
  refine OEX.osa_old X₅ hx₅ hn₅ hw5 (by decide) hcl (show refsVE (.ref C :: bm) = true from hbm) rfl T.noL (fun h₆ tk₆ k₆ hn₆ => ?_)
  have kk6 : ∀ b o, b ≠ x → s.heap.get? b = some o → h₆.get? b = some o := fun b o hb e => k₆ b o (fun z => by
    have q : b < s.heap.objs.size := Heap.lt_size e
    have z' : b = dx := z
    rw [z'] at q
    exact Nat.lt_irrefl _ (Nat.lt_of_lt_of_le q (Nat.le_trans (Nat.le_of_lt hL₄) dn'))) (kk5 b o hb (k b o e))
  refine wpAt_of_wpAny (wpAny_execs_nil (hq h₆ _ dx t1 ⟨kk6, k₆ _ _ (Ne.symm dne) hx₅, Nat.le_trans (Nat.le_of_lt hL₄) dn', dne, hn₆⟩))
/-- a made TooLarge -/
structure TlMade (h h' : Heap) (e C d : Addr) (v u : Value) : Prop where
  keep : ∀ b o, h.get? b = some o → h'.get? b = some o
  new : h.objs.size ≤ e
  obj : ∃ oe vs, h'.get? e = some oe ∧ oe.cls = .ref C ∧ oe.dict = some d ∧ oe.data = .fields vs ∧ vs[1]? = some .none
  dbig : h.objs.size ≤ d
  dne : d ≠ e
  ns : h'.Ns1 d (fun y => if y = "limit" then some u else if y = "what" then some v else none)
theorem tl_made {s : Shared} (T : TlTxt prog K mg C fI) {v u : Value} (X : K.In s.heap) (hlim : s.heap.NoLimit) (G : s.heap.Ns mainGlobals mg) (B : ∃ mb, s.heap.Ns builtinsNs mb ∧ ∀ y : Str, y ≠ "__name__" → mb y = bootBuiltins y)
    (hroom : A.depth + 1 < recursionLimit) (hq : ∀ h' tk e d, TlMade s.heap h' e C d v u → R (.ok (.ret (.ref e))) { s with heap := h', toks := tk }) :
    codeAny (model prog w) A (.call (.ref C) ⟨[v, u], []⟩) R s := by
  obtain ⟨nm, q, N, bs, bm, sn, sub, ab, col, dd, k0, k1, k2, k3, k5, hC, hbm, hal⟩ := T.cls
  obtain ⟨hp, g, dr, tk, os⟩ := s
  have k : ∀ b o, hp.get? b = some o → ((hp.push (kdv_tup [v, u])).push (excO C hp.objs.size)).get? b = some o := fun b o e => Heap.get?_push_of_some _ (Heap.get?_push_of_some _ e)
  have hget : ((hp.push (kdv_tup [v, u])).push (excO C hp.objs.size)).get? (hp.objs.size + 1) = some (excO C hp.objs.size) := by heap_get
  have hnx : K.lookup (hp.objs.size + 1) = none := by
    cases e : K.lookup (hp.objs.size + 1) with
    | none => rfl
    | some o => exact absurd (Nat.lt_of_succ_lt (Heap.lt_size (show hp.get? (hp.objs.size + 1) = some o from X _ _ e))) (Nat.lt_irrefl _)
  obtain ⟨mb, hmb, hbb⟩ := B
  refine call_own F.excBase_ValueError (fun X => refsVE_contains X bm hbm) (X _ _ hC) (looks_findIn X T.iC) (fun self => bind_fn X self T.tC) (two_size v u) ?_
  refine tl_init (s := ⟨(hp.push (kdv_tup [v, u])).push (excO C hp.objs.size), g, dr, tk, os⟩) T (X.keeps k) (hlim.keeps k) (G.keeps k) ⟨mb, hmb.keeps k, hbb⟩ hget hnx ?_ fun h' tk' dx t1 ⟨k', hx, dn, dne, hns⟩ => ?_
  · show A.depth + 1 < recursionLimit
    exact hroom
  · have old : ∀ b o, hp.get? b = some o → h'.get? b = some o := fun b o e => k' b o (Nat.ne_of_lt (Nat.lt_succ_of_lt (Heap.lt_size e))) (k b o e)
    have z : hp.objs.size + 1 + 1 ≤ dx := by
      have y := dn
      rw [Heap.size_push, Heap.size_push] at y
      exact y
    exact ⟨rfl, hq h' tk' (hp.objs.size + 1) dx ⟨old, Nat.le_succ _, ⟨_, _, hx, rfl, rfl, rfl, rfl⟩, Nat.le_trans (Nat.le_trans (Nat.le_succ _) (Nat.le_succ _)) z, dne, hns⟩⟩
end
/-- what a dict of an exception holds -/
def tlD (v u : V) : List (Str × V) := [("limit", u), ("what", v)]
theorem tlD_rel {v u : V} {v' u' : Value} (rv : RelV v v') (ru : RelV u u') (f : Str) : RelO ((tlD v u).lookup f) (if f = "limit" then some u' else if f = "what" then some v' else none) := by
  unfold tlD
  by_cases h : f = "limit"
  · subst h
    rw [if_pos rfl]
    have e : List.lookup ("limit" : Str) [(("limit" : Str), u), ("what", v)] = some u := by simp [List.lookup]
    rw [e]
    exact ru
  · rw [if_neg h]
    have e : (f == ("limit" : Str)) = false := by simpa using h
    by_cases h2 : f = "what"
    · subst h2
      rw [if_pos rfl]
      have e2 : List.lookup ("what" : Str) [(("limit" : Str), u), ("what", v)] = some v := by simp [List.lookup, e]
      rw [e2]
      exact rv
    · rw [if_neg h2]
      have e2 : (f == ("what" : Str)) = false := by simpa using h2
      have e3 : List.lookup f [(("limit" : Str), u), ("what", v)] = none := by simp [List.lookup, e, e2]
      rw [e3]
      trivial
section
variable {X : Cx} {C fI : Addr}
/-- TooLarge(e1, e2) -/
def tMkTl (C : Addr) (ta : TA) : L2.St → Hp → XK → Prop := fun σ H Q => ta σ H fun vs H1 => ∃ v u, vs = [v, u] ∧ ∀ d, H1 d = none → Q (.ref C) (some d) (upd H1 d (.xd (tlD v u)))
theorem pmk_tl {a b : Expr} {ta : TA} {p pos : Pos} {k : Nat} (T : TlTxt X.prog X.K X.mg C fI) (hr : Room k X.A) (ha : PA X [a, b] ta) (hg : Gl X "TooLarge" := by rfl)
    (he : starEach (a :: [b]) X.env = (false, eval a X.env) :: starEach [b] X.env := by rfl) (hpl : (backTo pos (starEach [b] X.env)).any (·.1) = false := by rfl) :
    PMk X (.Call (.Name "TooLarge" p) [a, b] [] pos) (tMkTl C ta) := by
  intro pins s σ H Q I h
  refine wpAny_Call_Name_kw (ld_glob I hg T.gC ?_)
  refine PySem.W.callWith_K (h₀ := X.base) I.ok.mod.kin T.kC (thn (ha.run pos pins s σ H _ I h) fun us s1 hh => ?_) he hpl
  obtain ⟨vs, H1, I1, r1, v, u, ev, q1⟩ := hh
  subst ev
  refine ⟨I1.kIn, ?_⟩
  cases r1 with
  | cons rv rn =>
    rename_i v' us'
    cases rn with
    | cons ru rn =>
      rename_i u' us''
      cases rn
      show wpAny _ _ (call (.ref C) [v', u']) _ _ _
      have hlim := I1.nolimit
      have gg := I1.mod.glob.keeps I1.bk
      obtain ⟨mb, bb1, bb2⟩ := I1.mod.blt
      have bb : ∃ mb, s1.heap.Ns builtinsNs mb ∧ ∀ y : Str, y ≠ "__name__" → mb y = bootBuiltins y := ⟨mb, bb1.keeps I1.bk, bb2⟩
      obtain ⟨hp, g, dr, tk, os⟩ := s1
      refine wpAny_call (tl_made T I1.kIn hlim gg bb (by have := hr.dp; omega) fun h' tk' e d M => ?_)
      show MkP X pins σ Q (.ref e) ⟨h', g, dr, tk', os⟩
      obtain ⟨oe, fv, hoe, hc, hd, hdat, h1⟩ := M.obj
      have hns := M.ns
      obtain ⟨G', g1, g2⟩ := restrict h' fun b => decide (b ≠ e)
      have gk : ∀ b, b ≠ e → G'.get? b = h'.get? b := fun b hb => g1 b (decide_eq_true hb)
      have ge : G'.get? e = none := g2 e (by simp)
      have old : ∀ b o, hp.get? b = some o → G'.get? b = some o := fun b o q => (gk b (Nat.ne_of_lt (Nat.lt_of_lt_of_le (Heap.lt_size q) M.new))).trans (M.keep b o q)
      have ob : ObjOk X.prog X.w (upd H1 d (.xd (tlD v u))) G' d (.xd (tlD v u)) := ⟨_, hns.at (fun o q => (gk d M.dne).trans q), tlD_rel rv ru⟩
      have J : Inv X pins σ (upd H1 d (.xd (tlD v u))) ⟨G', g, dr, tk', os⟩ := I1.laid (t' := tk') old M.dbig ob
      refine ⟨e, oe, fv, ⟨G', g, dr, tk', os⟩, _, .ref C, some d, rfl, J, fun b o q => ?_, ge, hoe, ⟨hc, hd⟩, hdat, h1, ?_, rfl, I1.bare, raises_own T.exC T.tyC, q1 d (I1.hok.fresh M.dbig)⟩
      · by_cases hb : b = e
        · have q' : G'.get? b = some o := q
          rw [hb, ge] at q'
          cases q'
        · exact (gk b hb).symm.trans q
      · rw [upd_ne (Ne.symm M.dne)]
        exact I1.hok.fresh M.new
end
end Rs

set_option Elab.async false
set_option linter.all false
set_option maxRecDepth 100000
set_option maxHeartbeats 4000000
/-! the graph's methods -/
namespace Rs
open PySem L2 PySem.Spec PyProof.Rows
local macro_rules | `(tactic| walk_at "rs ne") => `(tactic| first | assumption | (apply Ne.symm; assumption) | (apply ne_n1; assumption; walk_at "rs hp") | (apply ne_n2; assumption; walk_at "rs hp"))
local macro_rules | `(tactic| walk_at "rs hp") => `(tactic| first | assumption | exact upd_same | (apply hp_ne; (walk_at "rs ne"); (walk_at "rs hp")))
local macro_rules | `(tactic| walk_at "rs sq") => `(tactic| first | assumption | (apply SqL.of; walk_at "rs hp") | (apply SqT.of; walk_at "rs hp"))
local macro_rules | `(tactic| walk_at "rs sz") => `(tactic| first | decide | (rw [sizeLine_eq]; simp; done) | (rw [sizeLine_eq]; simp; omega) | (rw [sizeLine_eq]; omega))
local macro_rules | `(tactic| walk_at "rs ar") => `(tactic| first | assumption | (show (0 : Int) < _; first | assumption | decide | omega) | exact Or.inr ⟨by decide, by decide⟩ | exact Or.inl ⟨by decide, by decide⟩ | exact Or.inl ⟨by omega, by omega⟩ | exact Or.inr ⟨by omega, by omega⟩ | exact ⟨by decide, by decide, by decide⟩ | exact ⟨by decide, by decide⟩ | exact ⟨by omega, by omega⟩)
local macro_rules | `(tactic| walk_at "rs r1") => `(tactic| with_reducible (first | refine w_var rfl ?_ | refine w_c ?_ | refine w_op ?_ | refine w_un ?_ | refine w_test ?_ | refine w_B ?_ | refine w_bool ?_ | refine w_not ?_ | refine w_cb ?_ | refine w_nil ?_ | refine w_cons ?_ | refine w_asg ?_ | refine w_name ?_ | refine w_seq ?_ | refine w_ret ?_ | refine w_drop ?_ | refine w_next ?_ | refine w_ifS ?_ | refine w_I0 ?_ | refine w_eqI ?_ | refine w_neI ?_ | refine w_int ?_ | refine w_abs ?_ | refine w_sl ?_ | refine w_part ?_ | refine w_intO ?_ | refine w_nopart ?_ | refine w_gsub ?_ | refine w_augS ?_ | refine w_ip ?_ | refine w_lst ?_ | refine w_tup ?_ | refine w_if ?_ | refine w_and ?_ | refine w_or ?_ | refine w_tfld ?_ | refine w_forL ?_ | refine w_forT ?_ | refine w_forR1 ?_ | refine w_forR2 ?_ | refine w_forE ?_ | refine w_lcL ?_ | refine w_lcR1 ?_ | refine w_bm ?_ | refine w_call ?_ | refine w_meth ?_ | refine w_nget ?_ | refine w_nin ?_ | refine w_nput ?_ | refine w_eqS ?_ | refine w_neS ?_))
local macro_rules | `(tactic| walk_at "rs r2") => `(tactic| first | (walk_at "rs r1") | ((with_reducible refine' w_ixL ?h1 ?h2 ?h3); (case h1 => walk_at "rs sq"); (case h2 => first | rfl | exact atI_nat (j := 0) rfl | exact atI_nat (j := 1) rfl | exact atI_nat (j := 2) rfl)) | ((with_reducible refine' w_ixT ?h1 ?h2 ?h3); (case h1 => walk_at "rs sq"); (case h2 => first | rfl | exact atI_nat (j := 0) rfl | exact atI_nat (j := 1) rfl | exact atI_nat (j := 2) rfl)) | ((with_reducible refine' w_cutL ?h1 ?_); (case h1 => walk_at "rs sq"); intro q hq) | ((with_reducible refine' w_cat ?h1 ?h2 ?h3 ?_); (case h1 => walk_at "rs hp"); (case h2 => walk_at "rs hp"); (case h3 => walk_at "rs sz"); intro q hq) | ((with_reducible refine' w_small ?h1 ?_); (case h1 => exact Nat.le_of_ble_eq_true rfl); intro q hq) | ((with_reducible refine' w_setL ?h1 ?h2 ?_); (case h1 => walk_at "rs hp"); (case h2 => rfl)) | ((with_reducible refine' w_getL ?h0 ?h1 ?h2 ?_); (case h0 => rfl); (case h1 => walk_at "rs sq"); (case h2 => rfl)) | ((with_reducible refine' w_lenL ?h1 ?_); (case h1 => walk_at "rs sq")) | ((with_reducible refine' w_lenT ?h1 ?_); (case h1 => walk_at "rs sq")) | ((with_reducible refine' w_fld ?h1 ?h2 ?h3 ?h4 ?_); (case h1 => assumption); (case h2 => assumption); (case h3 => walk_at "rs hp"); (case h4 => assumption)) | ((with_reducible refine' w_methAt ?h1 ?h2 ?_); (case h1 => walk_at "rs hp"); (case h2 => assumption)) | ((with_reducible refine' w_tyL ?h1 ?_); (case h1 => walk_at "rs sq")) | ((with_reducible refine' w_append ?h1 ?h2 ?_); (case h1 => walk_at "rs hp"); (case h2 => assumption)) | ((with_reducible refine' w_I ?h1 ?_); (case h1 => walk_at "rs ar")))
local macro_rules | `(tactic| walk_at "rs rd") => `(tactic| repeat (walk_at "rs r2"))
abbrev sG (i : Nat) : Stmt := inClass (topX 7) i
/-- raise X() of an own exception class without an __init__ of its own -/
theorem pmk_own0 {X : Cx} {C : Addr} {bmB : List Value} {B newId initId : String} {x : Str} {p pos : Pos} (Fb : ExcBaseFacts B newId initId bmB) (q : PySem.W.excIn X.K C bmB newId = true) (gC : X.mg x = some (.ref C)) (kC : PySem.W.keepIn X.K (.ref C) = true)
    (r : Raises X (.ref C)) (hg : Gl X x) (hdb : (x == ("__debug__" : Str)) = false := by decide) : PMk X (.Call (.Name x p) [] [] pos) (fun _ H Q => Q (.ref C) none H) := by
  intro pins s σ H Q I h
  refine wpAny_Call_Name_kw (ld_glob I hg gC ?_ hdb)
  refine PySem.W.callWith_K0 I.kIn kC ?_
  obtain ⟨bm, N, nm, qn, bs, hdct, sn, sub, ab, col, dd, k0, k1, k2, k3, k5, mN, hC, hN, hni, T⟩ := exc_obj I.kIn q
  exact wpAny_call_exc_subT Fb T hC hN hni (fun h' e hm => mk_of I hm r h (I.hok.gone hm.new)) (Nat.zero_le _)
/-- a list's items with their places -/
def kvsOf : List NestedKey → Nat → List (NestedKey × V)
  | [], _ => []
  | k :: r, n => (k, .int (n : Int)) :: kvsOf r (n + 1)
theorem kvsOf_len : ∀ (L : List NestedKey) (n : Nat), (kvsOf L n).length = L.length
  | [], _ => rfl
  | _ :: r, n => by simp [kvsOf, kvsOf_len r (n + 1)]
theorem kvsOf_snoc (k : NestedKey) : ∀ (L : List NestedKey) (n : Nat), kvsOf (L ++ [k]) n = kvsOf L n ++ [(k, .int ((n + L.length : Nat) : Int))]
  | [], n => by simp [kvsOf]
  | a :: r, n => by
    rw [List.cons_append, kvsOf, kvsOf_snoc k r (n + 1), kvsOf, List.cons_append, List.length_cons]
    congr 5
    omega
theorem kvsOf_none {k : NestedKey} : ∀ {L : List NestedKey} {n : Nat}, k ∉ L → valV (kvsOf L n) k = none
  | [], _, _ => rfl
  | a :: r, n, h => by
    have h1 : ¬ a = k := fun e => h (by rw [e]; exact List.mem_cons_self)
    rw [kvsOf, valV_neg h1]
    exact kvsOf_none fun z => h (List.mem_cons_of_mem _ z)
theorem kvsOf_at {k : NestedKey} : ∀ {L : List NestedKey} {n i : Nat}, L.Nodup → L[i]? = some k → valV (kvsOf L n) k = some (.int ((n + i : Nat) : Int))
  | [], _, _, _, h => by simp at h
  | a :: r, n, 0, _, h => by
    have e : a = k := by simpa using h
    rw [kvsOf, valV_pos e]
    rfl
  | a :: r, n, i + 1, nd, h => by
    have nd' := List.nodup_cons.mp nd
    have hr : r[i]? = some k := by simpa using h
    have h1 : ¬ a = k := fun e => nd'.1 (by rw [e]; exact List.mem_of_getElem? hr)
    rw [kvsOf, valV_neg h1, kvsOf_at (n := n + 1) nd'.2 hr]
    congr 3
    omega
theorem kvsOf_put {k : NestedKey} {L : List NestedKey} (h : k ∉ L) : putK (kvsOf L 0) k (.int (L.length : Int)) = kvsOf (L ++ [k]) 0 := by
  rw [putK_new _ (kvsOf_none h), kvsOf_snoc]
  simp
/-- a graph's attributes -/
def gf (l d : Addr) : List (Str × V) := putF "known_heads" (.ref d) (putF "heads" (.ref l) [])
theorem hk_ : ¬ (("heads" : Str) = "known_heads") := by decide +kernel
theorem gf_heads (l d : Addr) : (gf l d).lookup ("heads" : Str) = some (.ref l) := by
  unfold gf
  rw [lookup_putF, if_neg hk_, lookup_putF, if_pos rfl]
theorem gf_known (l d : Addr) : (gf l d).lookup ("known_heads" : Str) = some (.ref d) := by
  unfold gf
  rw [lookup_putF, if_pos rfl]
theorem gf_no (l d : Addr) {m : Str} (h1 : ¬ m = "known_heads") (h2 : ¬ m = "heads") : (gf l d).lookup m = none := by
  unfold gf
  rw [lookup_putF, if_neg h1, lookup_putF, if_neg h2]
  all_goals rfl
/-- a graph at g, its heads' list at l, their dict at d: the nodes L -/
def GraphAt (P : Program) (w : World) (C : Addr) (H : Hp) (g l d : Addr) (L : List NestedKey) : Prop :=
  ∃ dx vs, H g = some (.ins C dx (gf l d)) ∧ H l = some (.lst vs) ∧ NKs H L vs ∧ ND P w H d (kvsOf L 0) ∧ L.Nodup ∧ (∀ k ∈ L, k.depth ≤ 8) ∧ L.length ≤ 3000
theorem NKs.len {H : Hp} : ∀ {L : List NestedKey} {vs : List V}, NKs H L vs → L.length = vs.length
  | [], _, h => by cases h; rfl
  | _ :: _, _, h => by
    cases h with
    | cons _ r => simp [r.len]
theorem NKs.get {H : Hp} : ∀ {L : List NestedKey} {vs : List V} {i : Nat} {k : NestedKey}, NKs H L vs → L[i]? = some k → ∃ v, vs[i]? = some v ∧ NK H k v
  | [], _, _, _, _, e => by simp at e
  | _ :: _, _, 0, _, h, e => by
    cases h with
    | cons a r => exact ⟨_, rfl, by simpa using (by simpa using e : _ = _) ▸ a⟩
  | _ :: _, _, i + 1, _, h, e => by
    cases h with
    | cons a r =>
      obtain ⟨v, h1, h2⟩ := NKs.get (i := i) r (by simpa using e)
      exact ⟨v, by simpa using h1, h2⟩
theorem NKs.snoc {H : Hp} {k : NestedKey} {v : V} (hk : NK H k v) : ∀ {L : List NestedKey} {vs : List V}, NKs H L vs → NKs H (L ++ [k]) (vs ++ [v])
  | [], _, h => by cases h; exact .cons hk .nil
  | _ :: _, _, h => by
    cases h with
    | cons a r => exact .cons a (NKs.snoc hk r)
theorem GraphAt.frame {P : Program} {w : World} {C : Addr} {S : List Addr} {H H' : Hp} {g l d : Addr} {L : List NestedKey} (x : GraphAt P w C H g l d L) (f : Fm S H H') (hg : g ∉ S) (hl : l ∉ S) (hd : d ∉ S) (ht : ∀ b xs, H b = some (.tup xs) → b ∉ S) : GraphAt P w C H' g l d L := by
  obtain ⟨dx, vs, h1, h2, h3, h4, h5, h6, h7⟩ := x
  have tp : ∀ b xs, H b = some (.tup xs) → H' b = some (.tup xs) := fun b xs e => f _ _ e (ht b xs e)
  exact ⟨dx, vs, f _ _ h1 hg, f _ _ h2 hl, NKs.mono tp _ _ h3, h4.frame (fun o e => f _ _ e hd) tp, h5, h6, h7⟩
structure TxtG (prog : Program) (K : PySem.W.Frag) (mg : Str → Option Value) (C CT fT CN : Addr) : Prop where
  cl : Cls K C
  nH : NoAttr K C "heads"
  nK : NoAttr K C "known_heads"
  len : mg "len" = none
  tuple : mg "tuple" = none
  most : mg "MOST_NODES" = some (.int 3000 0) ∨ ∃ t, mg "MOST_NODES" = some (.int 3000 t)
  tl : TlTxt prog K mg CT fT
  gN : mg "Nothing" = some (.ref CN)
  xN : PySem.W.excIn K CN [.type "ValueError", .type "Exception", .type "BaseException", .type "object"] "ValueError.__new__" = true
  kN : PySem.W.keepIn K (.ref CN) = true
  sN : PySem.W.subIn K (.ref CN) (.type "BaseException") = some true
  tN : PySem.W.typeIn K (.ref CN) = some (.type "type")

def spNum (P : Program) (w : World) (C CT : Addr) : Sp := fun vs H Q E => ∃ (g p l d : Addr) (L : List NestedKey) (k : NestedKey), vs = [.ref g, .ref p] ∧ GraphAt P w C H g l d L ∧ NK H k (.ref p) ∧ k.depth ≤ 8 ∧
  (∀ i : Nat, L[i]? = some k → Q (.int (i : Int)) H) ∧ (k ∉ L → L.length < 3000 → ∀ H', GraphAt P w C H' g l d (L ++ [k]) → Fm [l, d] H H' → Q (.int (L.length : Int)) H') ∧
  (k ∉ L → ¬ L.length < 3000 → ∀ dd, H dd = none → E (.ref CT) (some dd) (upd H dd (.xd (tlD (.str "nodes") (.int 3000)))))
section
variable {P : Program} {w : World} {K : PySem.W.Frag} {mg : Str → Option Value} {base : Heap} {C CT fT CN : Addr}
theorem GraphAt.parts {H : Hp} {g l d : Addr} {L : List NestedKey} (x : GraphAt P w C H g l d L) : g ≠ l ∧ g ≠ d ∧ l ≠ d := by
  obtain ⟨dx, vs, h1, h2, h3, ⟨es, h4, _⟩, _⟩ := x
  exact ⟨ne_of h1 h2 (by intro z; cases z), ne_of h1 h4 (fun z => ndo_ins z.symm), ne_of h2 h4 (fun z => ndo_lst z.symm)⟩
theorem scNum : FnScope ["self", "head"] ["self", "head"] (defScope (sG 2)) := ⟨rfl, rfl, rfl, by decide +kernel, rfl, by decide +kernel, by decide +kernel⟩
theorem ok_num {f : Addr} {fd : FuncData} (F : Fun K "numbered" "Graph.numbered" (sG 2) f fd) (T : TxtG P K mg C CT fT CN) : FnOk P w K mg base (L2.CX P w) 3 f fd ["self", "head"] (spNum P w C CT) := by
  refine F.okX scNum (fun vs H Q E h => ?_) (fun cdv A outer s H vs Q E hr h => ?_)
  · obtain ⟨g, p, l, d, L, k, rfl, _⟩ := h
    rfl
  · obtain ⟨g, p, l, d, L, k, rfl, G, hk, hdp, q1, q2, q3⟩ := h
    have nd := scNum.nd
    have hu := hr.units
    obtain ⟨t, hm⟩ : ∃ t, mg "MOST_NODES" = some (.int 3000 t) := T.most.elim (fun h => ⟨_, h⟩) fun h => h
    refine ⟨_, Evl.pss_cut (ps_if (pt_cmp (pc_nnotin hu (pv 1) (pe_fld (pv 0) rfl)))
        (pss_cons (ps_if (pt_cmpR op_ge (pe_callB c_len (by rfl) T.len PySem.boot_len (pa_cons (pe_fld (pv 0) rfl) pa_nil)) (pe_glob (v := .int 3000) rfl hm ⟨_, rfl⟩) (nomark _))
          (pss_one (ps_raise rfl (takes_of rfl rfl rfl rfl) (pmk_tl T.tl hr (pa_cons pe_str (pa_cons (pe_glob (v := .int 3000) rfl hm ⟨_, rfl⟩) pa_nil))))) pss_nil)
        (pss_cons (ps_nput hu (pe_fld (pv 0) rfl) (pv 1) (pe_callB c_len (by rfl) T.len PySem.boot_len (pa_cons (pe_fld (pv 0) rfl) pa_nil)) rfl)
        (pss_one (ps_expr (pe_bm PySem.F.plainAttrs_list PySem.F.slot_list_append PySem.F.type_list_append mt_append (pe_fld (pv 0) rfl) (pa_cons (pv 1) pa_nil)))))) pss_nil)
      (pss_one (ps_ret (pe_nget hu (pe_fld (pv 0) rfl) (pv 1) (fun _ _ => rfl)))), ?_⟩
    have cl := T.cl
    have nH := T.nH
    have nK := T.nK
    have gH := gf_heads l d
    have gK := gf_known l d
    obtain ⟨dx, vs, h1, h2, h3, h4, h5, h6, h7⟩ := id G
    obtain ⟨gl, gd, ld⟩ := G.parts
    refine w_cut (M := fun σ' H' => σ' = [some (.ref g), some (.ref p)] ∧ ((k ∈ L ∧ H' = H) ∨ (k ∉ L ∧ L.length < 3000 ∧ GraphAt P w C H' g l d (L ++ [k]) ∧ Fm [l, d] H H'))) ?_ ?_
    · walk_at "rs rd"
      refine ⟨d, p, _, k, rfl, rfl, h4, hk, hdp, ?_⟩
      by_cases hkL : k ∈ L
      · obtain ⟨i, hi⟩ := List.getElem?_of_mem hkL
        have e : (valV (kvsOf L 0) k).isSome = true := by rw [kvsOf_at h5 hi]; rfl
        refine ⟨false, by rw [e]; rfl, ?_⟩
        rw [if_neg Bool.false_ne_true]
        walk_at "rs rd"
        exact ⟨rfl, .inl ⟨hkL, rfl⟩⟩
      · have e : (valV (kvsOf L 0) k).isSome = false := by rw [kvsOf_none hkL]; rfl
        refine ⟨true, by rw [e]; rfl, ?_⟩
        rw [if_pos rfl]
        have hlen := h3.len
        walk_at "rs rd"
        refine w_ite (fun e1 => ?_) (fun e1 => ?_)
        · refine w_cons ?_
          walk_at "rs rd"
          refine ⟨_, _, rfl, fun dd hdd => ?_⟩
          exact q3 hkL (by omega) dd hdd
        · walk_at "rs rd"
          refine ⟨d, p, _, k, rfl, rfl, h4, hk, hdp, (by rw [kvsOf_len, sizeLine_eq]; omega), fun H4 d4 e4 => ?_⟩
          have hz : vs.length < sizeLine := by rw [sizeLine_eq]; omega
          have h1' : H4 g = some (.ins C dx (gf l d)) := (e4 g gd).trans h1
          have h2' : H4 l = some (.lst vs) := (e4 l ld).trans h2
          walk_at "rs rd"
          have f1 : Fm [l, d] H H4 := fun a o ea na => (e4 a fun z => na (by simp [z])).trans ea
          have f2 : Fm [l, d] H (upd H4 l (.lst (vs ++ [.ref p]))) := f1.thenPut (by simp)
          have tp : ∀ b xs, H b = some (.tup xs) → upd H4 l (.lst (vs ++ [.ref p])) b = some (.tup xs) := fun b xs eb => f2 b _ eb fun z => by
            obtain ⟨es, hd', _⟩ := id h4
            rcases List.mem_cons.mp z with z | z
            · subst z; rw [h2] at eb; cases eb
            · rw [List.mem_singleton] at z
              subst z
              exact ndo_tup (Option.some.inj (hd'.symm.trans eb))
          have tp4 : ∀ b xs, H4 b = some (.tup xs) → upd H4 l (.lst (vs ++ [.ref p])) b = some (.tup xs) := fun b xs eb => by
            rw [upd_ne (fun z => by rw [z, h2'] at eb; cases eb)]
            exact eb
          refine ⟨rfl, .inr ⟨hkL, by omega, ⟨dx, _, by walk_at "rs hp", upd_same, NKs.snoc (NK.mono tp _ _ hk) (NKs.mono tp _ _ h3), ?_, ?_, ?_, ?_⟩, f2⟩⟩
          · have q := d4.frame (H' := upd H4 l (.lst (vs ++ [.ref p]))) (fun o eo => by rw [upd_ne (Ne.symm ld)]; exact eo) tp4
            have ev : (V.int (vs.length : Int)) = .int (L.length : Int) := by rw [hlen]
            rw [ev, kvsOf_put hkL] at q
            exact q
          · exact List.nodup_append.mpr ⟨h5, by simp, fun a ha b hb => by rw [List.mem_singleton] at hb; subst hb; exact fun z => hkL (z ▸ ha)⟩
          · intro a ha
            rcases List.mem_append.mp ha with ha | ha
            · exact h6 a ha
            · rw [List.mem_singleton] at ha; subst ha; exact hdp
          · rw [List.length_append, List.length_singleton]; omega
    · rintro σ' H' ⟨rfl, ⟨hkL, rfl⟩ | ⟨hkL, hl3, G', f'⟩⟩
      · walk_at "rs rd"
        obtain ⟨i, hi⟩ := List.getElem?_of_mem hkL
        have e := kvsOf_at (n := 0) h5 hi
        rw [Nat.zero_add] at e
        exact ⟨d, p, _, k, _, rfl, rfl, h4, hk, hdp, e, q1 i hi⟩
      · obtain ⟨dx', vs', h1', h2', h3', h4', h5', h6', h7'⟩ := id G'
        walk_at "rs rd"
        have hi : (L ++ [k])[L.length]? = some k := by simp
        have e := kvsOf_at (n := 0) h5' hi
        rw [Nat.zero_add] at e
        have tp : ∀ b xs, H b = some (.tup xs) → H' b = some (.tup xs) := fun b xs eb => f' b _ eb fun z => by
          obtain ⟨es, hd', _⟩ := id h4
          rcases List.mem_cons.mp z with z | z
          · subst z; rw [h2] at eb; cases eb
          · rw [List.mem_singleton] at z
            subst z
            exact ndo_tup (Option.some.inj (hd'.symm.trans eb))
        exact ⟨d, p, _, k, _, rfl, rfl, h4', NK.mono tp _ _ hk, hdp, e, q2 hkL hl3 H' G' f'⟩
end
end Rs

set_option Elab.async false
set_option linter.all false
set_option maxRecDepth 100000
set_option maxHeartbeats 4000000
/-! the graph's other methods -/
namespace Rs
open PySem L2 PySem.Spec PyProof.Rows
local macro_rules | `(tactic| walk_at "rs ne") => `(tactic| first | assumption | (apply Ne.symm; assumption) | (apply ne_n1; assumption; walk_at "rs hp") | (apply ne_n2; assumption; walk_at "rs hp"))
local macro_rules | `(tactic| walk_at "rs hp") => `(tactic| first | assumption | exact upd_same | (apply hp_ne; (walk_at "rs ne"); (walk_at "rs hp")))
local macro_rules | `(tactic| walk_at "rs sq") => `(tactic| first | assumption | (apply SqL.of; walk_at "rs hp") | (apply SqT.of; walk_at "rs hp"))
local macro_rules | `(tactic| walk_at "rs sz") => `(tactic| first | decide | (rw [sizeLine_eq]; simp; done) | (rw [sizeLine_eq]; simp; omega) | (rw [sizeLine_eq]; omega))
local macro_rules | `(tactic| walk_at "rs ar") => `(tactic| first | assumption | (show (0 : Int) < _; first | assumption | decide | omega) | exact Or.inr ⟨by decide, by decide⟩ | exact Or.inl ⟨by decide, by decide⟩ | exact Or.inl ⟨by omega, by omega⟩ | exact Or.inr ⟨by omega, by omega⟩ | exact ⟨by decide, by decide, by decide⟩ | exact ⟨by decide, by decide⟩ | exact ⟨by omega, by omega⟩)
local macro_rules | `(tactic| walk_at "rs r1") => `(tactic| with_reducible (first | refine w_var rfl ?_ | refine w_c ?_ | refine w_op ?_ | refine w_un ?_ | refine w_test ?_ | refine w_B ?_ | refine w_bool ?_ | refine w_not ?_ | refine w_cb ?_ | refine w_nil ?_ | refine w_cons ?_ | refine w_asg ?_ | refine w_name ?_ | refine w_seq ?_ | refine w_ret ?_ | refine w_drop ?_ | refine w_next ?_ | refine w_ifS ?_ | refine w_I0 ?_ | refine w_eqI ?_ | refine w_neI ?_ | refine w_int ?_ | refine w_abs ?_ | refine w_sl ?_ | refine w_part ?_ | refine w_intO ?_ | refine w_nopart ?_ | refine w_gsub ?_ | refine w_augS ?_ | refine w_ip ?_ | refine w_lst ?_ | refine w_tup ?_ | refine w_if ?_ | refine w_and ?_ | refine w_or ?_ | refine w_tfld ?_ | refine w_forL ?_ | refine w_forT ?_ | refine w_forR1 ?_ | refine w_forR2 ?_ | refine w_forE ?_ | refine w_lcL ?_ | refine w_lcR1 ?_ | refine w_bm ?_ | refine w_call ?_ | refine w_meth ?_ | refine w_nget ?_ | refine w_nin ?_ | refine w_nput ?_ | refine w_eqS ?_ | refine w_neS ?_))
local macro_rules | `(tactic| walk_at "rs r2") => `(tactic| first | (walk_at "rs r1") | ((with_reducible refine' w_ixL ?h1 ?h2 ?h3); (case h1 => walk_at "rs sq"); (case h2 => first | rfl | exact atI_nat (j := 0) rfl | exact atI_nat (j := 1) rfl | exact atI_nat (j := 2) rfl)) | ((with_reducible refine' w_ixT ?h1 ?h2 ?h3); (case h1 => walk_at "rs sq"); (case h2 => first | rfl | exact atI_nat (j := 0) rfl | exact atI_nat (j := 1) rfl | exact atI_nat (j := 2) rfl)) | ((with_reducible refine' w_cutL ?h1 ?_); (case h1 => walk_at "rs sq"); intro q hq) | ((with_reducible refine' w_cat ?h1 ?h2 ?h3 ?_); (case h1 => walk_at "rs hp"); (case h2 => walk_at "rs hp"); (case h3 => walk_at "rs sz"); intro q hq) | ((with_reducible refine' w_small ?h1 ?_); (case h1 => exact Nat.le_of_ble_eq_true rfl); intro q hq) | ((with_reducible refine' w_setL ?h1 ?h2 ?_); (case h1 => walk_at "rs hp"); (case h2 => rfl)) | ((with_reducible refine' w_getL ?h0 ?h1 ?h2 ?_); (case h0 => rfl); (case h1 => walk_at "rs sq"); (case h2 => rfl)) | ((with_reducible refine' w_lenL ?h1 ?_); (case h1 => walk_at "rs sq")) | ((with_reducible refine' w_lenT ?h1 ?_); (case h1 => walk_at "rs sq")) | ((with_reducible refine' w_fld ?h1 ?h2 ?h3 ?h4 ?_); (case h1 => assumption); (case h2 => assumption); (case h3 => walk_at "rs hp"); (case h4 => assumption)) | ((with_reducible refine' w_methAt ?h1 ?h2 ?_); (case h1 => walk_at "rs hp"); (case h2 => assumption)) | ((with_reducible refine' w_tyL ?h1 ?_); (case h1 => walk_at "rs sq")) | ((with_reducible refine' w_append ?h1 ?h2 ?_); (case h1 => walk_at "rs hp"); (case h2 => assumption)) | ((with_reducible refine' w_I ?h1 ?_); (case h1 => walk_at "rs ar")))
local macro_rules | `(tactic| walk_at "rs rd") => `(tactic| repeat (walk_at "rs r2"))
def spMany (P : Program) (w : World) (C : Addr) : Sp := fun vs H Q _ => ∃ (g l d : Addr) (L : List NestedKey), vs = [.ref g] ∧ GraphAt P w C H g l d L ∧ Q (.int (L.length : Int)) H
/-- the head of a node's number, or Nothing -/
def spHead (P : Program) (w : World) (C CN : Addr) : Sp := fun vs H Q E => ∃ (g l d : Addr) (L : List NestedKey) (n : Int), vs = [.ref g, .int n] ∧ GraphAt P w C H g l d L ∧
  (∀ (i : Nat) (k : NestedKey) (v : V), n = (i : Int) → L[i]? = some k → NK H k v → Q v H) ∧ ((n < 0 ∨ (L.length : Int) ≤ n) → E (.ref CN) none H)
def spIsL (P : Program) (w : World) (C CN : Addr) : Sp := fun vs H Q E => ∃ (g l d : Addr) (L : List NestedKey) (n : Int), vs = [.ref g, .int n] ∧ GraphAt P w C H g l d L ∧ (∀ k ∈ L, ∃ s r, k = .tup (.text s :: r)) ∧
  (∀ (i : Nat) (s : Str) (r : List NestedKey), n = (i : Int) → L[i]? = some (.tup (.text s :: r)) → Q (.bl (decide (s = "letter"))) H) ∧ ((n < 0 ∨ (L.length : Int) ≤ n) → E (.ref CN) none H)
def spKey (P : Program) (w : World) (C CN : Addr) (what : Str) : Sp := fun vs H Q E => ∃ (g l d : Addr) (L : List NestedKey) (n : Int), vs = [.ref g, .int n] ∧ GraphAt P w C H g l d L ∧ (∀ k ∈ L, ∃ s b r, k = .tup (.text s :: b :: r)) ∧
  (∀ (i : Nat) (b : NestedKey) (r : List NestedKey) (v : V), n = (i : Int) → L[i]? = some (.tup (.text what :: b :: r)) → NK H b v → Q v H) ∧
  (∀ (i : Nat) (s : Str) (b : NestedKey) (r : List NestedKey), n = (i : Int) → L[i]? = some (.tup (.text s :: b :: r)) → s ≠ what → E (.ref CN) none H) ∧ ((n < 0 ∨ (L.length : Int) ≤ n) → E (.ref CN) none H)
def spParts (P : Program) (w : World) (C CN : Addr) : Sp := fun vs H Q E => ∃ (g l d : Addr) (L : List NestedKey) (n : Int), vs = [.ref g, .int n] ∧ GraphAt P w C H g l d L ∧
  (∀ k ∈ L, (∃ b, k = .tup [.text "letter", b]) ∨ ∃ o ps, k = .tup [.text "op", .text o, .tup ps]) ∧
  (∀ (i : Nat) (b : NestedKey), n = (i : Int) → L[i]? = some (.tup [.text "letter", b]) → ∀ p, H p = none → Q (.ref p) (upd H p (.tup []))) ∧
  (∀ (i : Nat) (o : Str) (ps : List NestedKey) (v : V), n = (i : Int) → L[i]? = some (.tup [.text "op", .text o, .tup ps]) → NK H (.tup ps) v → Q v H) ∧ ((n < 0 ∨ (L.length : Int) ≤ n) → E (.ref CN) none H)
def spLetter (P : Program) (w : World) (C CT : Addr) : Sp := fun vs H Q E => ∃ (g l d : Addr) (L : List NestedKey) (key : NestedKey) (kv : V), vs = [.ref g, kv] ∧ GraphAt P w C H g l d L ∧ NK H key kv ∧ key.depth ≤ 7 ∧
  (∀ (i : Nat) H', L[i]? = some (.tup [.text "letter", key]) → GraphAt P w C H' g l d L → Fm [] H H' → Q (.int (i : Int)) H') ∧
  (.tup [.text "letter", key] ∉ L → L.length < 3000 → ∀ H', GraphAt P w C H' g l d (L ++ [.tup [.text "letter", key]]) → Fm [l, d] H H' → Q (.int (L.length : Int)) H') ∧
  (.tup [.text "letter", key] ∉ L → ¬ L.length < 3000 → ∀ dd H', H' dd = some (.xd (tlD (.str "nodes") (.int 3000))) → H dd = none → GraphAt P w C H' g l d L → Fm [] H H' → E (.ref CT) (some dd) H')
def spNode (P : Program) (w : World) (C CT CN : Addr) : Sp := fun vs H Q E => ∃ (g l d pp : Addr) (L : List NestedKey) (o : Str) (ns : List Int), vs = [.ref g, .str o, .ref pp] ∧ GraphAt P w C H g l d L ∧ H pp = some (.tup (ns.map V.int)) ∧
  ((∃ n ∈ ns, n < 0 ∨ (L.length : Int) ≤ n) → E (.ref CN) none H) ∧
  ((∀ n ∈ ns, 0 ≤ n ∧ n < (L.length : Int)) → 
    (∀ (i : Nat) H', L[i]? = some (.tup [.text "op", .text o, .tup (ns.map .num)]) → GraphAt P w C H' g l d L → Fm [] H H' → Q (.int (i : Int)) H') ∧
    (.tup [.text "op", .text o, .tup (ns.map .num)] ∉ L → L.length < 3000 → ∀ H', GraphAt P w C H' g l d (L ++ [.tup [.text "op", .text o, .tup (ns.map .num)]]) → Fm [l, d] H H' → Q (.int (L.length : Int)) H') ∧
    (.tup [.text "op", .text o, .tup (ns.map .num)] ∉ L → ¬ L.length < 3000 → ∀ dd H', H' dd = some (.xd (tlD (.str "nodes") (.int 3000))) → H dd = none → GraphAt P w C H' g l d L → Fm [] H H' → E (.ref CT) (some dd) H'))

section
variable {P : Program} {w : World} {K : PySem.W.Frag} {mg : Str → Option Value} {base : Heap} {C CT fT CN : Addr}
theorem GraphAt.tp {H H' : Hp} {g l d : Addr} {L : List NestedKey} (x : GraphAt P w C H g l d L) {S : List Addr} (f : Fm S H H') (hS : ∀ a ∈ S, a = l ∨ a = d ∨ a = g) : ∀ b xs, H b = some (.tup xs) → H' b = some (.tup xs) := fun b xs eb => f b _ eb fun z => by
  obtain ⟨dx, vs, h1, h2, _, ⟨es, h4, _⟩, _⟩ := x
  rcases hS b z with rfl | rfl | rfl
  · rw [h2] at eb; cases eb
  · exact ndo_tup (Option.some.inj (h4.symm.trans eb))
  · rw [h1] at eb; cases eb
theorem GraphAt.same {H H' : Hp} {g l d : Addr} {L : List NestedKey} (x : GraphAt P w C H g l d L) (f : Fm [] H H') : GraphAt P w C H' g l d L := x.frame f List.not_mem_nil List.not_mem_nil List.not_mem_nil fun _ _ _ => List.not_mem_nil
theorem scMany : FnScope ["self"] ["self"] (defScope (sG 1)) := ⟨rfl, rfl, rfl, by decide +kernel, rfl, by decide +kernel, by decide +kernel⟩
theorem ok_many {f : Addr} {fd : FuncData} (F : Fun K "many" "Graph.many" (sG 1) f fd) (T : TxtG P K mg C CT fT CN) : FnOk P w K mg base CX0 1 f fd ["self"] (spMany P w C) := by
  refine F.ok scMany (fun vs H Q E h => ?_) (fun cdv A outer s H vs Q E hr h => ?_)
  · obtain ⟨g, l, d, L, rfl, _⟩ := h
    rfl
  · obtain ⟨g, l, d, L, rfl, G, q⟩ := h
    refine ⟨_, pss_one (ps_ret (pe_callB c_len (by rfl) T.len PySem.boot_len (pa_cons (pe_fld (pv 0) rfl) pa_nil))), ?_⟩
    have cl := T.cl
    have nH := T.nH
    have gH := gf_heads l d
    obtain ⟨dx, vs, h1, h2, h3, h4, h5, h6, h7⟩ := id G
    have hlen := h3.len
    walk_at "rs rd"
    rw [← hlen]
    exact q
theorem scHead : FnScope ["self", "n"] ["self", "n"] (defScope (sG 5)) := ⟨rfl, rfl, rfl, by decide +kernel, rfl, by decide +kernel, by decide +kernel⟩
theorem ok_head {f : Addr} {fd : FuncData} (F : Fun K "head_of" "Graph.head_of" (sG 5) f fd) (T : TxtG P K mg C CT fT CN) : FnOk P w K mg base (L2.CX P w) 2 f fd ["self", "n"] (spHead P w C CN) := by
  refine F.okX scHead (fun vs H Q E h => ?_) (fun cdv A outer s H vs Q E hr h => ?_)
  · obtain ⟨g, l, d, L, n, rfl, _⟩ := h
    rfl
  · obtain ⟨g, l, d, L, n, rfl, G, q1, q2⟩ := h
    refine ⟨_, pss_cons (ps_if (pw_or (pt_cmpR op_lt (pv 1) pe_int (nomark _)) (pw_or1 (pt_cmpR op_ge (pv 1) (pe_callB c_len (by rfl) T.len PySem.boot_len (pa_cons (pe_fld (pv 0) rfl) pa_nil)) (nomark _)))).pt
        (pss_one (ps_raise rfl (takes_of rfl rfl rfl rfl) (pmk_own0 PySem.F.excBase_ValueError T.xN T.gN T.kN (raises_own T.sN T.tN) rfl))) pss_nil)
      (pss_one (ps_ret (pe_ix ix_list (pe_fld (pv 0) rfl) (pv 1) (fun _ _ => rfl)))), ?_⟩
    have cl := T.cl
    have nH := T.nH
    have gH := gf_heads l d
    obtain ⟨dx, vs, h1, h2, h3, h4, h5, h6, h7⟩ := id G
    have hlen := h3.len
    walk_at "rs rd"
    refine w_ite (fun e1 => ?_) (fun e1 => ?_)
    · walk_at "rs rd"
      rw [if_pos rfl]
      exact q2 (.inl e1)
    · walk_at "rs rd"
      refine w_ite (fun e2 => ?_) (fun e2 => ?_)
      · exact q2 (.inr (by omega))
      · walk_at "rs rd"
        obtain ⟨i, rfl⟩ : ∃ i : Nat, n = (i : Int) := ⟨n.toNat, by omega⟩
        have hi : i < L.length := by omega
        obtain ⟨v, hv, hk⟩ := h3.get (List.getElem?_eq_getElem hi)
        refine w_ixL (by walk_at "rs sq") (atI_nat hv) ?_
        exact q1 i _ v rfl (List.getElem?_eq_getElem hi) hk
/-- the head of a node in place: a tuple that begins with a text -/
theorem head_nk {H : Hp} {L : List NestedKey} {vs : List V} {k : NestedKey} {i : Nat} (h3 : NKs H L vs) (h : L[i]? = some k) : ∃ v, NK H k v := (h3.get h).imp fun _ z => z.2
theorem scIsL : FnScope ["self", "n"] ["self", "n"] (defScope (sG 6)) := ⟨rfl, rfl, rfl, by decide +kernel, rfl, by decide +kernel, by decide +kernel⟩
theorem ok_isL {f fH : Addr} {fd fdH : FuncData} (F : Fun K "is_letter" "Graph.is_letter" (sG 6) f fd) (T : TxtG P K mg C CT fT CN) (GH : FnOk P w K mg base (L2.CX P w) 2 fH fdH ["self", "n"] (spHead P w C CN)) (bH : Binds K fdH ["self", "n"] []) (mH : Meth K C "head_of" fH) :
    FnOk P w K mg base (L2.CX P w) 3 f fd ["self", "n"] (spIsL P w C CN) := by
  refine F.okX scIsL (fun vs H Q E h => ?_) (fun cdv A outer s H vs Q E hr h => ?_)
  · obtain ⟨g, l, d, L, n, rfl, _⟩ := h
    rfl
  · obtain ⟨g, l, d, L, n, rfl, G, hL, q1, q2⟩ := h
    refine ⟨_, pss_one (ps_ret (pe_cmpR op_eq (pe_ix ix_tup (pe_meth (E := E) (pv 0) T.cl mH GH hr bH .nil (passes_call (takes_of rfl rfl rfl rfl) fun _ _ _ _ h => h) (pa_cons (pv 1) pa_nil)) pe_int (fun _ _ => rfl)) pe_str (nomark _))), ?_⟩
    have nM : (gf l d).lookup ("head_of" : Str) = none := gf_no _ _ (by decide +kernel) (by decide +kernel)
    obtain ⟨dx, vs, h1, h2, h3, h4, h5, h6, h7⟩ := id G
    walk_at "rs rd"
    refine ⟨g, l, d, L, n, rfl, G, fun i k v hn hk hv => ?_, q2⟩
    obtain ⟨s, r, rfl⟩ := hL k (List.mem_of_getElem? hk)
    cases hv with
    | tup ea ra =>
      cases ra with
      | cons r1 r2 =>
        cases r1
        walk_at "rs rd"
        exact q1 i s r hn hk
theorem scKey : FnScope ["self", "n", "head"] ["self", "n"] (defScope (sG 7)) := ⟨rfl, rfl, rfl, by decide +kernel, rfl, by decide +kernel, by decide +kernel⟩
theorem ok_key {f fH : Addr} {fd fdH : FuncData} (F : Fun K "key_of" "Graph.key_of" (sG 7) f fd) (T : TxtG P K mg C CT fT CN) (GH : FnOk P w K mg base (L2.CX P w) 2 fH fdH ["self", "n"] (spHead P w C CN)) (bH : Binds K fdH ["self", "n"] []) (mH : Meth K C "head_of" fH) :
    FnOk P w K mg base (L2.CX P w) 3 f fd ["self", "n"] (spKey P w C CN "letter") := by
  refine F.okX scKey (fun vs H Q E h => ?_) (fun cdv A outer s H vs Q E hr h => ?_)
  · obtain ⟨g, l, d, L, n, rfl, _⟩ := h
    rfl
  · obtain ⟨g, l, d, L, n, rfl, G, hL, q1, q2, q3⟩ := h
    have nd := scKey.nd
    refine ⟨_, pss_cons (ps_set (i := 2) nd rfl (Or.inl rfl) (pe_meth (E := E) (pv 0) T.cl mH GH hr bH .nil (passes_call (takes_of rfl rfl rfl rfl) fun _ _ _ _ h => h) (pa_cons (pv 1) pa_nil)))
      (pss_cons (ps_if (pt_cmpR op_ne (pe_ix ix_tup (pv 2) pe_int (fun _ _ => rfl)) pe_str (nomark _)) (pss_one (ps_raise rfl (takes_of rfl rfl rfl rfl) (pmk_own0 PySem.F.excBase_ValueError T.xN T.gN T.kN (raises_own T.sN T.tN) rfl))) pss_nil)
      (pss_one (ps_ret (pe_ix ix_tup (pv 2) pe_int (fun _ _ => rfl))))), ?_⟩
    have nM : (gf l d).lookup ("head_of" : Str) = none := gf_no _ _ (by decide +kernel) (by decide +kernel)
    obtain ⟨dx, vs, h1, h2, h3, h4, h5, h6, h7⟩ := id G
    walk_at "rs rd"
    refine ⟨g, l, d, L, n, rfl, G, fun i k v hn hk hv => ?_, q3⟩
    obtain ⟨s, b, r, rfl⟩ := hL k (List.mem_of_getElem? hk)
    cases hv with
    | tup ea ra =>
      cases ra with
      | cons r1 r2 =>
        cases r1
        cases r2 with
        | cons r2 r3 =>
          walk_at "rs rd"
          refine w_iteN (fun e => ?_) (fun e => ?_)
          · exact q2 i s b r hn hk e
          · subst e
            walk_at "rs rd"
            exact q1 i b r _ hn hk r2
theorem scOp : FnScope ["self", "n", "head"] ["self", "n"] (defScope (sG 8)) := ⟨rfl, rfl, rfl, by decide +kernel, rfl, by decide +kernel, by decide +kernel⟩
theorem ok_op {f fH : Addr} {fd fdH : FuncData} (F : Fun K "op_of" "Graph.op_of" (sG 8) f fd) (T : TxtG P K mg C CT fT CN) (GH : FnOk P w K mg base (L2.CX P w) 2 fH fdH ["self", "n"] (spHead P w C CN)) (bH : Binds K fdH ["self", "n"] []) (mH : Meth K C "head_of" fH) :
    FnOk P w K mg base (L2.CX P w) 3 f fd ["self", "n"] (spKey P w C CN "op") := by
  refine F.okX scOp (fun vs H Q E h => ?_) (fun cdv A outer s H vs Q E hr h => ?_)
  · obtain ⟨g, l, d, L, n, rfl, _⟩ := h
    rfl
  · obtain ⟨g, l, d, L, n, rfl, G, hL, q1, q2, q3⟩ := h
    have nd := scOp.nd
    refine ⟨_, pss_cons (ps_set (i := 2) nd rfl (Or.inl rfl) (pe_meth (E := E) (pv 0) T.cl mH GH hr bH .nil (passes_call (takes_of rfl rfl rfl rfl) fun _ _ _ _ h => h) (pa_cons (pv 1) pa_nil)))
      (pss_cons (ps_if (pt_cmpR op_ne (pe_ix ix_tup (pv 2) pe_int (fun _ _ => rfl)) pe_str (nomark _)) (pss_one (ps_raise rfl (takes_of rfl rfl rfl rfl) (pmk_own0 PySem.F.excBase_ValueError T.xN T.gN T.kN (raises_own T.sN T.tN) rfl))) pss_nil)
      (pss_one (ps_ret (pe_ix ix_tup (pv 2) pe_int (fun _ _ => rfl))))), ?_⟩
    have nM : (gf l d).lookup ("head_of" : Str) = none := gf_no _ _ (by decide +kernel) (by decide +kernel)
    obtain ⟨dx, vs, h1, h2, h3, h4, h5, h6, h7⟩ := id G
    walk_at "rs rd"
    refine ⟨g, l, d, L, n, rfl, G, fun i k v hn hk hv => ?_, q3⟩
    obtain ⟨s, b, r, rfl⟩ := hL k (List.mem_of_getElem? hk)
    cases hv with
    | tup ea ra =>
      cases ra with
      | cons r1 r2 =>
        cases r1
        cases r2 with
        | cons r2 r3 =>
          walk_at "rs rd"
          refine w_iteN (fun e => ?_) (fun e => ?_)
          · exact q2 i s b r hn hk e
          · subst e
            walk_at "rs rd"
            exact q1 i b r _ hn hk r2
theorem scParts : FnScope ["self", "n", "head"] ["self", "n"] (defScope (sG 9)) := ⟨rfl, rfl, rfl, by decide +kernel, rfl, by decide +kernel, by decide +kernel⟩
theorem ok_parts {f fH : Addr} {fd fdH : FuncData} (F : Fun K "parts_of" "Graph.parts_of" (sG 9) f fd) (T : TxtG P K mg C CT fT CN) (GH : FnOk P w K mg base (L2.CX P w) 2 fH fdH ["self", "n"] (spHead P w C CN)) (bH : Binds K fdH ["self", "n"] []) (mH : Meth K C "head_of" fH) :
    FnOk P w K mg base (L2.CX P w) 3 f fd ["self", "n"] (spParts P w C CN) := by
  refine F.okX scParts (fun vs H Q E h => ?_) (fun cdv A outer s H vs Q E hr h => ?_)
  · obtain ⟨g, l, d, L, n, rfl, _⟩ := h
    rfl
  · obtain ⟨g, l, d, L, n, rfl, G, hL, q1, q2, q3⟩ := h
    have nd := scParts.nd
    refine ⟨_, pss_cons (ps_set (i := 2) nd rfl (Or.inl rfl) (pe_meth (E := E) (pv 0) T.cl mH GH hr bH .nil (passes_call (takes_of rfl rfl rfl rfl) fun _ _ _ _ h => h) (pa_cons (pv 1) pa_nil)))
      (pss_cons (ps_if (pt_cmpR op_eq (pe_ix ix_tup (pv 2) pe_int (fun _ _ => rfl)) pe_str (nomark _)) (pss_one (ps_ret (pe_tup pa_nil))) pss_nil)
      (pss_one (ps_ret (pe_ix ix_tup (pv 2) pe_int (fun _ _ => rfl))))), ?_⟩
    have nM : (gf l d).lookup ("head_of" : Str) = none := gf_no _ _ (by decide +kernel) (by decide +kernel)
    obtain ⟨dx, vs, h1, h2, h3, h4, h5, h6, h7⟩ := id G
    walk_at "rs rd"
    refine ⟨g, l, d, L, n, rfl, G, fun i k v hn hk hv => ?_, q3⟩
    rcases hL k (List.mem_of_getElem? hk) with ⟨b, rfl⟩ | ⟨o, ps, rfl⟩
    · cases hv with
      | tup ea ra =>
        cases ra with
        | cons r1 r2 =>
          cases r1
          cases r2 with
          | cons r2 r3 =>
            cases r3
            walk_at "rs rd"
            refine w_ite (fun e => ?_) (fun e => ?_)
            · refine w_ret (w_tup (w_nil (w_small (by decide) fun p hp => ?_)))
              exact q1 i b hn hk p hp
            · exact absurd rfl e
    · cases hv with
      | tup ea ra =>
        cases ra with
        | cons r1 r2 =>
          cases r1
          cases r2 with
          | cons r2 r3 =>
            cases r2
            cases r3 with
            | cons r3 r4 =>
              cases r4
              walk_at "rs rd"
              refine w_ite (fun e => ?_) (fun e => ?_)
              · exact absurd e (by decide +kernel)
              · walk_at "rs rd"
                exact q2 i o ps _ hn hk r3
theorem nk_depth (k : NestedKey) (h : k.depth ≤ 7) : (NestedKey.tup [.text "letter", k]).depth ≤ 8 := by
  show max _ (max k.depth 0) + 1 ≤ 8
  show max 0 (max k.depth 0) + 1 ≤ 8
  omega
theorem nums_depth : ∀ ns : List Int, NestedKey.depthAll (ns.map .num) = 0
  | [] => rfl
  | n :: r => by
    show max 0 (NestedKey.depthAll (r.map .num)) = 0
    rw [nums_depth r]
    rfl
theorem op_depth (o : Str) (ns : List Int) : (NestedKey.tup [.text "op", .text o, .tup (ns.map .num)]).depth ≤ 8 := by
  show max 0 (max 0 (max (NestedKey.depthAll (ns.map .num) + 1) 0)) + 1 ≤ 8
  rw [nums_depth]
  decide
theorem nums_nk (H : Hp) : ∀ ns : List Int, NKs H (ns.map .num) (ns.map V.int)
  | [] => .nil
  | n :: r => .cons (.num n) (nums_nk H r)
theorem scLet : FnScope ["self", "key"] ["self", "key"] (defScope (sG 3)) := ⟨rfl, rfl, rfl, by decide +kernel, rfl, by decide +kernel, by decide +kernel⟩
theorem ok_let {f fM : Addr} {fd fdM : FuncData} (F : Fun K "letter" "Graph.letter" (sG 3) f fd) (T : TxtG P K mg C CT fT CN) (GM : FnOk P w K mg base (L2.CX P w) 3 fM fdM ["self", "head"] (spNum P w C CT)) (bM : Binds K fdM ["self", "head"] []) (mM : Meth K C "numbered" fM) :
    FnOk P w K mg base (L2.CX P w) 4 f fd ["self", "key"] (spLetter P w C CT) := by
  refine F.okX scLet (fun vs H Q E h => ?_) (fun cdv A outer s H vs Q E hr h => ?_)
  · obtain ⟨g, l, d, L, key, kv, rfl, _⟩ := h
    rfl
  · obtain ⟨g, l, d, L, key, kv, rfl, G, hk, hd, q1, q2, q3⟩ := h
    refine ⟨_, pss_one (ps_ret (pe_meth (E := E) (pv 0) T.cl mM GM hr bM .nil (passes_call (takes_of rfl rfl rfl rfl) fun _ _ _ _ h => h) (pa_cons (pe_tup (pa_cons pe_str (pa_cons (pv 1) pa_nil))) pa_nil))), ?_⟩
    have nM : (gf l d).lookup ("numbered" : Str) = none := gf_no _ _ (by decide +kernel) (by decide +kernel)
    obtain ⟨dx, vs, h1, h2, h3, h4, h5, h6, h7⟩ := id G
    walk_at "rs rd"
    rename_i p hp
    have f1 : Fm [] H (upd H p (.tup [.str "letter", kv])) := Fm.new hp
    have G1 := G.same f1
    have tp := G.tp f1 (fun _ h => (List.not_mem_nil h).elim)
    refine ⟨g, p, l, d, L, .tup [.text "letter", key], rfl, G1, .tup upd_same (.cons (.text _) (.cons (NK.mono tp _ _ hk) .nil)), nk_depth key hd, fun i hi => q1 i _ hi G1 f1, fun hn hl H' G' f' => q2 hn hl H' G' (f1.nil.trans f'), fun hn hl dd hdd => ?_⟩
    have f2 : Fm [] H (upd (upd H p (.tup [.str "letter", kv])) dd (.xd (tlD (.str "nodes") (.int 3000)))) := f1.thenNew hdd
    exact q3 hn hl dd _ upd_same (f1.none hdd List.not_mem_nil) (G.same f2) f2
theorem scNode : FnScope ["self", "op", "parts", "part"] ["self", "op", "parts"] (defScope (sG 4)) := ⟨rfl, rfl, rfl, by decide +kernel, rfl, by decide +kernel, by decide +kernel⟩
theorem ok_node {f fM fH : Addr} {fd fdM fdH : FuncData} (F : Fun K "node" "Graph.node" (sG 4) f fd) (T : TxtG P K mg C CT fT CN) (GM : FnOk P w K mg base (L2.CX P w) 3 fM fdM ["self", "head"] (spNum P w C CT)) (bM : Binds K fdM ["self", "head"] []) (mM : Meth K C "numbered" fM)
    (GH : FnOk P w K mg base (L2.CX P w) 2 fH fdH ["self", "n"] (spHead P w C CN)) (bH : Binds K fdH ["self", "n"] []) (mH : Meth K C "head_of" fH) :
    FnOk P w K mg base (L2.CX P w) 4 f fd ["self", "op", "parts"] (spNode P w C CT CN) := by
  refine F.okX scNode (fun vs H Q E h => ?_) (fun cdv A outer s H vs Q E hr h => ?_)
  · obtain ⟨g, l, d, pp, L, o, ns, rfl, _⟩ := h
    rfl
  · obtain ⟨g, l, d, pp, L, o, ns, rfl, G, hpp, q0, q⟩ := h
    have nd := scNode.nd
    refine ⟨_, pss_cons (ps_for (passes_of rfl) rfl (pi_tup (pv 2)) (pg_name (i := 3) nd rfl (Or.inl rfl)) (pss_one (ps_expr (pe_meth (E := E) (pv 0) T.cl mH GH (hr.mono (by decide)) bH .nil (passes_call (takes_of rfl rfl rfl rfl) fun _ _ _ _ h => h) (pa_cons (pv 3) pa_nil)))))
      (pss_one (ps_ret (pe_meth (E := E) (pv 0) T.cl mM GM hr bM .nil (passes_call (takes_of rfl rfl rfl rfl) fun _ _ _ _ h => h) (pa_cons (pe_tup (pa_cons pe_str (pa_cons (pv 1) (pa_cons (pe_callTy call_tupleT (by rfl) T.tuple (by decide +kernel) (pa_cons (pv 2) pa_nil)) pa_nil)))) pa_nil)))), ?_⟩
    have nM : (gf l d).lookup ("numbered" : Str) = none := gf_no _ _ (by decide +kernel) (by decide +kernel)
    have nH : (gf l d).lookup ("head_of" : Str) = none := gf_no _ _ (by decide +kernel) (by decide +kernel)
    obtain ⟨dx, vs, h1, h2, h3, h4, h5, h6, h7⟩ := id G
    refine w_seq ?_
    refine ⟨_, rfl, pp, rfl, ⟨_, SqT.of hpp⟩, for_tup (K := K) (a := pp) (xs := ns.map V.int) (fun i σ H' => H' = H ∧ (∃ v, σ = [some (.ref g), some (.str o), some (.ref pp), v]) ∧ ∀ n ∈ ns.take i, 0 ≤ n ∧ n < (L.length : Int))
      ⟨rfl, ⟨none, rfl⟩, by simp⟩ (fun i σ H' _ ⟨e, _⟩ => by rw [e]; exact SqT.of hpp) ?_ ?_⟩
    · rintro i x σ H' hx ⟨rfl, ⟨v, rfl⟩, hb⟩
      rw [List.getElem?_map] at hx
      obtain ⟨n, hn, rfl⟩ := Option.map_eq_some_iff.mp hx
      walk_at "rs rd"
      refine ⟨g, l, d, L, n, rfl, G, fun j k v' ej hk hv => ?_, fun bad => q0 ⟨n, List.mem_of_getElem? hn, bad⟩⟩
      refine ⟨rfl, ⟨_, rfl⟩, fun m hm => ?_⟩
      have hi : i < ns.length := (List.getElem?_eq_some_iff.mp hn).1
      rw [List.take_succ, hn] at hm
      rcases List.mem_append.mp hm with hm | hm
      · exact hb m hm
      · have e : m = n := by simpa using hm
        have hj : j < L.length := (List.getElem?_eq_some_iff.mp hk).1
        omega
    · rintro σ H' ⟨rfl, ⟨v, rfl⟩, hb⟩
      have hb' : ∀ n ∈ ns, 0 ≤ n ∧ n < (L.length : Int) := fun n hn => hb n (by rw [List.length_map, List.take_length]; exact hn)
      obtain ⟨q1, q2, q3⟩ := q hb'
      walk_at "rs rd"
      refine ⟨pp, _, rfl, SqT.of hpp, ?_⟩
      walk_at "rs rd"
      rename_i p hp
      have f1 : Fm [] H' (upd H' p (.tup [.str "op", .str o, .ref pp])) := Fm.new hp
      have G1 := G.same f1
      have hpp1 : upd H' p (.tup [.str "op", .str o, .ref pp]) pp = some (.tup (ns.map V.int)) := f1 _ _ hpp List.not_mem_nil
      refine ⟨g, p, l, d, L, .tup [.text "op", .text o, .tup (ns.map .num)], rfl, G1, .tup upd_same (.cons (.text _) (.cons (.text _) (.cons (.tup hpp1 (nums_nk _ ns)) .nil))), op_depth o ns, fun i hi => q1 i _ hi G1 f1, fun hn hl H' G' f' => q2 hn hl H' G' (f1.nil.trans f'), fun hn hl dd hdd => ?_⟩
      have f2 : Fm [] H' (upd (upd H' p (.tup [.str "op", .str o, .ref pp])) dd (.xd (tlD (.str "nodes") (.int 3000)))) := f1.thenNew hdd
      exact q3 hn hl dd _ upd_same (f1.none hdd List.not_mem_nil) (G.same f2) f2
/-- Graph() -/
def spInit (P : Program) (w : World) (C : Addr) : Sp := fun vs H Q _ => ∃ (g dx : Addr), vs = [.ref g] ∧ H g = some (.ins C dx []) ∧ ∀ l d H', H l = none → H d = none → GraphAt P w C H' g l d [] → Fm [g] H H' → Q .non H'
theorem scInit : FnScope ["self"] ["self"] (defScope (sG 0)) := ⟨rfl, rfl, rfl, by decide +kernel, rfl, by decide +kernel, by decide +kernel⟩
theorem ok_init {f : Addr} {fd : FuncData} (F : Fun K "__init__" "Graph.__init__" (sG 0) f fd) (T : TxtG P K mg C CT fT CN) : FnOk P w K mg base CX0 1 f fd ["self"] (spInit P w C) := by
  refine F.ok scInit (fun vs H Q E h => ?_) (fun cdv A outer s H vs Q E hr h => ?_)
  · obtain ⟨g, dx, rfl, _⟩ := h
    rfl
  · obtain ⟨g, dx, rfl, hg, k⟩ := h
    refine ⟨_, pss_cons (ps_fld (pv 0) (pe_lst pa_nil) rfl) (pss_one (ps_fld (pv 0) pe_nnew rfl)), ?_⟩
    refine ⟨Nat.zero_le _, fun l hl => ?_⟩
    have ngl : g ≠ l := ne_of_none hg hl
    refine ⟨_, rfl, g, C, dx, [], rfl, (by rw [upd_ne ngl]; exact hg), T.cl, T.nH, (by show 0 < 1000; decide), ?_⟩
    intro d hd dd
    have ndg : d ≠ g := fun z => by rw [z, upd_same] at hd; cases hd
    have ndl : d ≠ l := fun z => by rw [z, upd_ne ngl.symm, upd_same] at hd; cases hd
    have hd0 : H d = none := by rw [upd_ne ndg, upd_ne ndl] at hd; exact hd
    refine ⟨_, rfl, g, C, dx, _, rfl, (by rw [upd_ne ndg.symm]; exact upd_same), T.cl, T.nK, (by show 1 < 1000; decide), ?_⟩
    refine k l d _ hl hd0 ⟨dx, [], upd_same, ?_, .nil, ?_, List.nodup_nil, fun _ h => (List.not_mem_nil h).elim, Nat.zero_le _⟩ ?_
    · rw [upd_ne ngl.symm, upd_ne ndl.symm, upd_ne ngl.symm, upd_same]
    · exact dd.frame (fun o eo => by rw [upd_ne ndg]; exact eo) fun b xs eb => by
        rw [upd_ne (fun z => ?_)]
        · exact eb
        · rw [z, upd_ne ndg.symm, upd_same] at eb
          cases eb
    · exact ((((Fm.refl _ _).thenNew hl).thenPut (by simp)).thenNew hd).thenPut (by simp)
end
end Rs

set_option Elab.async false
set_option linter.all false
set_option maxRecDepth 100000
set_option maxHeartbeats 4000000
/-! the law's helpers: _law_some, _law_bag, _law_mixed, _law_alike -/
namespace Rs
open PySem L2 PySem.Spec PyProof.Rows
local macro_rules | `(tactic| walk_at "rs ne") => `(tactic| first | assumption | (apply Ne.symm; assumption) | (apply ne_n1; assumption; walk_at "rs hp") | (apply ne_n2; assumption; walk_at "rs hp"))
local macro_rules | `(tactic| walk_at "rs hp") => `(tactic| first | assumption | exact upd_same | (apply hp_ne; (walk_at "rs ne"); (walk_at "rs hp")))
local macro_rules | `(tactic| walk_at "rs sq") => `(tactic| first | assumption | (apply SqL.of; walk_at "rs hp") | (apply SqT.of; walk_at "rs hp"))
local macro_rules | `(tactic| walk_at "rs sz") => `(tactic| first | decide | (rw [sizeLine_eq]; simp; done) | (rw [sizeLine_eq]; simp; omega) | (rw [sizeLine_eq]; omega))
local macro_rules | `(tactic| walk_at "rs ar") => `(tactic| first | assumption | (show (0 : Int) < _; first | assumption | decide | omega) | exact Or.inr ⟨by decide, by decide⟩ | exact Or.inl ⟨by decide, by decide⟩ | exact Or.inl ⟨by omega, by omega⟩ | exact Or.inr ⟨by omega, by omega⟩ | exact ⟨by decide, by decide, by decide⟩ | exact ⟨by decide, by decide⟩ | exact ⟨by omega, by omega⟩)
local macro_rules | `(tactic| walk_at "rs r1") => `(tactic| with_reducible (first | refine w_var rfl ?_ | refine w_c ?_ | refine w_op ?_ | refine w_un ?_ | refine w_test ?_ | refine w_B ?_ | refine w_bool ?_ | refine w_not ?_ | refine w_cb ?_ | refine w_nil ?_ | refine w_cons ?_ | refine w_asg ?_ | refine w_name ?_ | refine w_seq ?_ | refine w_ret ?_ | refine w_drop ?_ | refine w_next ?_ | refine w_ifS ?_ | refine w_I0 ?_ | refine w_eqI ?_ | refine w_neI ?_ | refine w_int ?_ | refine w_abs ?_ | refine w_sl ?_ | refine w_part ?_ | refine w_intO ?_ | refine w_nopart ?_ | refine w_gsub ?_ | refine w_augS ?_ | refine w_ip ?_ | refine w_lst ?_ | refine w_tup ?_ | refine w_if ?_ | refine w_and ?_ | refine w_or ?_ | refine w_tfld ?_ | refine w_forL ?_ | refine w_forT ?_ | refine w_forR1 ?_ | refine w_forR2 ?_ | refine w_forE ?_ | refine w_lcL ?_ | refine w_lcR1 ?_ | refine w_bm ?_ | refine w_call ?_ | refine w_meth ?_ | refine w_nget ?_ | refine w_nin ?_ | refine w_nput ?_ | refine w_eqS ?_ | refine w_neS ?_))
local macro_rules | `(tactic| walk_at "rs r2") => `(tactic| first | (walk_at "rs r1") | ((with_reducible refine' w_ixL ?h1 ?h2 ?h3); (case h1 => walk_at "rs sq"); (case h2 => first | rfl | exact atI_nat (j := 0) rfl | exact atI_nat (j := 1) rfl | exact atI_nat (j := 2) rfl)) | ((with_reducible refine' w_ixT ?h1 ?h2 ?h3); (case h1 => walk_at "rs sq"); (case h2 => first | rfl | exact atI_nat (j := 0) rfl | exact atI_nat (j := 1) rfl | exact atI_nat (j := 2) rfl)) | ((with_reducible refine' w_cutL ?h1 ?_); (case h1 => walk_at "rs sq"); intro q hq) | ((with_reducible refine' w_cat ?h1 ?h2 ?h3 ?_); (case h1 => walk_at "rs hp"); (case h2 => walk_at "rs hp"); (case h3 => walk_at "rs sz"); intro q hq) | ((with_reducible refine' w_small ?h1 ?_); (case h1 => exact Nat.le_of_ble_eq_true rfl); intro q hq) | ((with_reducible refine' w_setL ?h1 ?h2 ?_); (case h1 => walk_at "rs hp"); (case h2 => rfl)) | ((with_reducible refine' w_getL ?h0 ?h1 ?h2 ?_); (case h0 => rfl); (case h1 => walk_at "rs sq"); (case h2 => rfl)) | ((with_reducible refine' w_lenL ?h1 ?_); (case h1 => walk_at "rs sq")) | ((with_reducible refine' w_lenT ?h1 ?_); (case h1 => walk_at "rs sq")) | ((with_reducible refine' w_fld ?h1 ?h2 ?h3 ?h4 ?_); (case h1 => assumption); (case h2 => assumption); (case h3 => walk_at "rs hp"); (case h4 => assumption)) | ((with_reducible refine' w_methAt ?h1 ?h2 ?_); (case h1 => walk_at "rs hp"); (case h2 => assumption)) | ((with_reducible refine' w_tyL ?h1 ?_); (case h1 => walk_at "rs sq")) | ((with_reducible refine' w_append ?h1 ?h2 ?_); (case h1 => walk_at "rs hp"); (case h2 => assumption)) | ((with_reducible refine' w_I ?h1 ?_); (case h1 => walk_at "rs ar")))
local macro_rules | `(tactic| walk_at "rs rd") => `(tactic| repeat (walk_at "rs r2"))
abbrev sMixed : Stmt := top 12
abbrev sAlike : Stmt := top 13
section
variable {P : Program} {w : World} {K : PySem.W.Frag} {mg : Str → Option Value} {base : Heap}
theorem scSome : FnScope ["bag", "things"] ["bag", "things"] (defScope sSome) := ⟨rfl, rfl, rfl, by decide +kernel, rfl, by decide +kernel, by decide +kernel⟩
theorem ok_some {f fT : Addr} {fd fdT : FuncData} (F : Fun K "_law_some" "_law_some" sSome f fd) (T : TxtB K mg) (mT : mg "_law_take" = some (.ref fT)) (kT : PySem.W.keepIn K (.ref fT) = true) (bT : Binds K fdT ["bag", "many"] [])
    (GT : FnOk P w K mg base CX0 1 fT fdT ["bag", "many"] spTake) : FnOk P w K mg base CX0 2 f fd ["bag", "things"] (spSome K) := by
  refine F.ok scSome (fun vs H Q E h => ?_) (fun cdv A outer s H vs Q E hr h => ?_)
  · obtain ⟨b, c, p, xs, rfl, _⟩ := h
    rfl
  · obtain ⟨b, c, p, xs, rfl, hne, hlen, hpb, hs, B, k⟩ := h
    refine ⟨_, pss_one (ps_ret (pe_ix ix_seq (pv 1) (pe_call GT hr rfl mT kT bT .nil pass0 (pa_cons (pv 0) (pa_cons (pe_callB c_len (by rfl) T.len PySem.boot_len (pa_cons (pv 1) pa_nil)) pa_nil))) (fun _ _ => rfl))), ?_⟩
    walk_at "rs rd"
    have h0 : 0 < xs.length := List.length_pos_iff.mpr hne
    refine ⟨p, xs, rfl, hs, ?_⟩
    walk_at "rs rd"
    refine ⟨b, c, _, rfl, by omega, by omega, B, fun v H' v0 v1 B' f' => ?_⟩
    obtain ⟨j, rfl⟩ : ∃ j : Nat, v = (j : Int) := ⟨v.toNat, by omega⟩
    have hj : j < xs.length := by omega
    have e := List.getElem?_eq_getElem hj
    have hm : xs[j] ∈ xs := List.getElem_mem hj
    rcases hs with hs | hs
    · exact .inl (w_ixL (f'.seqL hs (not_in1 hpb)) (atI_nat e) (k _ _ hm B' f'))
    · exact .inr (.inl (w_ixT (f'.seqT hs (not_in1 hpb)) (atI_nat e) (k _ _ hm B' f')))
def spBag (K : PySem.W.Frag) : Sp := fun vs H Q _ => ∃ (a : Addr) (ns : List Int), vs = [.ref a] ∧ SqL K H a (ns.map V.int) ∧ ns.length ≤ 63 ∧ ∀ b c H', H b = none → H c = none → Bag H' b c → Fm [] H H' → Q (.ref b) H'
theorem scBag : FnScope ["script", "cell"] ["script"] (defScope sBag) := ⟨rfl, rfl, rfl, by decide +kernel, rfl, by decide +kernel, by decide +kernel⟩
theorem ok_bag {f : Addr} {fd : FuncData} (F : Fun K "_law_bag" "_law_bag" sBag f fd) (mA : mg "abs" = none) : FnOk P w K mg base CX0 1 f fd ["script"] (spBag K) := by
  refine F.ok scBag (fun vs H Q E h => ?_) (fun cdv A outer s H vs Q E hr h => ?_)
  · obtain ⟨a, ns, rfl, _⟩ := h
    rfl
  · obtain ⟨a, ns, rfl, hs, hlen, k⟩ := h
    refine ⟨_, pss_one (ps_ret (pe_lst (pa_cons pe_int (pa_cons pe_int (pa_cons pe_int (pa_cons (pe_lc (own := [("cell", 1)]) (g := gName 1) (tt := tYes) rfl scBag.nd (pi_list (pe_slice sl_list (pv 0) po_none (po_some pe_int))) (blkOk_by (N := ["script", "cell"]) (sc := defScope sBag) (by decide +kernel))
      (fun _ _ _ _ _ => pg_name (i := 1) scBag.nd rfl (Or.inl rfl)) (fun _ _ _ _ _ => pts_nil) (fun _ _ _ _ _ => pe_callB c_abs (by rfl) mA (by decide +kernel) (pa_cons (pv 1) pa_nil))) pa_nil)))))), ?_⟩
    walk_at "rs rd"
    rename_i q hq
    refine ⟨_, rfl, ⟨_, SqL.of upd_same⟩, fun c hc => ?_⟩
    have hcq : c ≠ q := fun z => by rw [z, upd_same] at hc; cases hc
    have hc0 : H c = none := by rw [upd_ne hcq] at hc; exact hc
    let xs : List V := cutV (ns.map V.int) none (some 63)
    have hxs : xs.length ≤ 63 := Nat.le_trans (cutV_len _ _ _) (by rw [List.length_map]; exact hlen)
    refine lc_it (walk_list (xs := xs)) (fun i H' => ∃ ms : List Int, ms.length = i ∧ (∀ n ∈ ms, 0 ≤ n) ∧ H' c = some (.lst (ms.map V.int)) ∧ H' q = some (.lst xs) ∧ Fm [] H H')
      ⟨[], rfl, by simp, upd_same, by rw [upd_ne hcq.symm]; exact upd_same, (Fm.new hq).thenOwn hc0⟩ (fun i H' _ ⟨ms, m1, m2, m3, m4, m5⟩ => SqL.of m4) ?_ ?_
    · rintro i x H1 H' hi ⟨ms, e1, e2, e3, e4, e5⟩ ⟨rfl, hx⟩
      obtain ⟨n, hn, rfl⟩ := List.mem_map.mp (cutV_mem (List.mem_of_getElem? hx))
      refine w_name ⟨rfl, w_yes ?_⟩
      walk_at "rs rd"
      refine ⟨_, e3, by rw [List.length_map, sizeLine_eq]; omega, ms ++ [if n < 0 then -n else n], by simp [e1], fun m hm => ?_, by simp [upd_same], by rw [upd_ne hcq.symm]; exact e4, e5.thenOwn hc0⟩
      rcases List.mem_append.mp hm with hm | hm
      · exact e2 m hm
      · rw [List.mem_singleton] at hm
        subst hm
        split <;> omega
    · rintro H' ⟨ms, e1, e2, e3, e4, e5⟩
      walk_at "rs rd"
      rename_i b hb
      have hb0 : H b = none := e5.none hb List.not_mem_nil
      refine k b c _ hb0 hc0 ⟨0, 1234567891, 0, ms, upd_same, by decide, by decide, ?_, e2, by omega⟩ (e5.thenNew hb)
      rw [upd_ne (fun z => by rw [← z, e3] at hb; cases hb)]
      exact e3
/-- _law_mixed: the same things in another order -/
def spMixed (K : PySem.W.Frag) : Sp := fun vs H Q _ => ∃ (b c p : Addr) (xs : List V), vs = [.ref b, .ref p] ∧ xs.length ≤ 1000 ∧ p ≠ b ∧ SqL K H p xs ∧ Bag H b c ∧
  ∀ (q : Addr) (ys : List V) (H' : Hp), H q = none → H' q = some (.lst ys) → ys.Perm xs → Bag H' b c → Fm [b] H H' → Q (.ref q) H'
theorem scMixed : FnScope ["bag", "things", "found", "thing"] ["bag", "things"] (defScope sMixed) := ⟨rfl, rfl, rfl, by decide +kernel, rfl, by decide +kernel, by decide +kernel⟩
theorem ok_mixed {f fT : Addr} {fd fdT : FuncData} (F : Fun K "_law_mixed" "_law_mixed" sMixed f fd) (T : TxtB K mg) (mT : mg "_law_take" = some (.ref fT)) (kT : PySem.W.keepIn K (.ref fT) = true) (bT : Binds K fdT ["bag", "many"] [])
    (GT : FnOk P w K mg base CX0 1 fT fdT ["bag", "many"] spTake) : FnOk P w K mg base CX0 2 f fd ["bag", "things"] (spMixed K) := by
  refine F.ok scMixed (fun vs H Q E h => ?_) (fun cdv A outer s H vs Q E hr h => ?_)
  · obtain ⟨b, c, p, xs, rfl, _⟩ := h
    rfl
  · obtain ⟨b, c, p, xs, rfl, hlen, hpb, hs, B, k⟩ := h
    have nd := scMixed.nd
    refine ⟨_, pss_cons (ps_set (i := 2) nd rfl (Or.inl rfl) (pe_lst pa_nil)) (pss_cons (ps_for PassesOwn.never rfl (pi_list (pv 1)) (pg_name (i := 3) nd rfl (Or.inl rfl))
      (pss_one (ps_expr (pe_bm PySem.F.plainAttrs_list PySem.F.slot_list_insert PySem.F.type_list_insert mt_insert (pv 2) (pa_cons (pe_call GT hr rfl mT kT bT .nil pass0 (pa_cons (pv 0) (pa_cons (pe_op op_add (pe_callB c_len (by rfl) T.len PySem.boot_len (pa_cons (pv 2) pa_nil)) pe_int) pa_nil))) (pa_cons (pv 3) pa_nil))))))
      (pss_one (ps_ret (pv 2)))), ?_⟩
    walk_at "rs rd"
    rename_i q hq
    refine ⟨_, rfl, ⟨_, (Fm.new hq : Fm [] H _).seqL hs List.not_mem_nil⟩, for_it (walk_list (xs := xs)) (fun i σ H' => ∃ (ys : List V) (v : Option V), σ = [some (.ref b), some (.ref p), some (.ref q), v] ∧ H' q = some (.lst ys) ∧ ys.Perm (xs.take i) ∧ Bag H' b c ∧ Fm [b] H H')
      ⟨[], none, rfl, upd_same, by simp, B.frame (Fm.new hq : Fm [] H _) List.not_mem_nil List.not_mem_nil, Fm.new hq⟩ (fun i σ H' _ ⟨_, _, _, _, _, _, f⟩ => f.seqL hs (not_in1 hpb)) ?_ ?_⟩
    · rintro i x σ H1 H' hi ⟨ys, v, rfl, e1, e2, B', f'⟩ ⟨rfl, hx⟩
      have hyl : ys.length = i := by rw [e2.length_eq, List.length_take]; omega
      walk_at "rs rd"
      refine ⟨b, c, _, rfl, by omega, by omega, B', fun n H2 n0 n1 B2 f2 => ?_⟩
      have hqb : q ≠ b := fun z => by
        obtain ⟨_, _, _, _, hb, _⟩ := B
        rw [← z, hq] at hb
        cases hb
      have e1' : H2 q = some (.lst ys) := f2 _ _ e1 (not_in1 hqb)
      walk_at "rs rd"
      refine ⟨q, ys, n, x, rfl, rfl, e1', by rw [sizeLine_eq]; omega, n0, by omega, ?_⟩
      have hcq : c ≠ q := fun z => by
        obtain ⟨_, _, _, _, _, _, _, hc, _⟩ := B
        rw [z, hq] at hc
        cases hc
      refine ⟨_, _, rfl, upd_same, ?_, ?_, (f'.trans f2).thenOwn hq⟩
      · have e3 : (ys.take n.toNat ++ [x] ++ ys.drop n.toNat).Perm (x :: ys) := by
          rw [List.append_assoc]
          exact (List.perm_middle (a := x) (l₁ := ys.take n.toNat) (l₂ := ys.drop n.toNat)).trans (by rw [List.take_append_drop])
        rw [List.take_succ, hx]
        exact e3.trans ((List.Perm.cons x e2).trans (by simpa using (List.perm_append_singleton x (xs.take i)).symm))
      · obtain ⟨cur, seed, ix, ns, h1, p1, p2, h2, p3⟩ := B2
        exact ⟨cur, seed, ix, ns, by rw [upd_ne hqb.symm]; exact h1, p1, p2, by rw [upd_ne hcq]; exact h2, p3⟩
    · rintro σ H' ⟨ys, v, rfl, e1, e2, B', f'⟩
      walk_at "rs rd"
      rw [List.take_length] at e2
      exact k q ys H' hq e1 e2 B' f'
end
end Rs

set_option Elab.async false
set_option linter.all false
set_option maxRecDepth 100000
set_option maxHeartbeats 4000000
/-! _law_alike: repr and == of small data -/
namespace Rs
open PySem L2 PySem.Spec PyProof.Rows PySem.PyData
local macro_rules | `(tactic| walk_at "rs ne") => `(tactic| first | assumption | (apply Ne.symm; assumption) | (apply ne_n1; assumption; walk_at "rs hp") | (apply ne_n2; assumption; walk_at "rs hp"))
local macro_rules | `(tactic| walk_at "rs hp") => `(tactic| first | assumption | exact upd_same | (apply hp_ne; (walk_at "rs ne"); (walk_at "rs hp")))
local macro_rules | `(tactic| walk_at "rs sq") => `(tactic| first | assumption | (apply SqL.of; walk_at "rs hp") | (apply SqT.of; walk_at "rs hp"))
local macro_rules | `(tactic| walk_at "rs sz") => `(tactic| first | decide | (rw [sizeLine_eq]; simp; done) | (rw [sizeLine_eq]; simp; omega) | (rw [sizeLine_eq]; omega))
local macro_rules | `(tactic| walk_at "rs ar") => `(tactic| first | assumption | (show (0 : Int) < _; first | assumption | decide | omega) | exact Or.inr ⟨by decide, by decide⟩ | exact Or.inl ⟨by decide, by decide⟩ | exact Or.inl ⟨by omega, by omega⟩ | exact Or.inr ⟨by omega, by omega⟩ | exact ⟨by decide, by decide, by decide⟩ | exact ⟨by decide, by decide⟩ | exact ⟨by omega, by omega⟩)
local macro_rules | `(tactic| walk_at "rs r1") => `(tactic| with_reducible (first | refine w_var rfl ?_ | refine w_c ?_ | refine w_op ?_ | refine w_un ?_ | refine w_test ?_ | refine w_B ?_ | refine w_bool ?_ | refine w_not ?_ | refine w_cb ?_ | refine w_nil ?_ | refine w_cons ?_ | refine w_asg ?_ | refine w_name ?_ | refine w_seq ?_ | refine w_ret ?_ | refine w_drop ?_ | refine w_next ?_ | refine w_ifS ?_ | refine w_I0 ?_ | refine w_eqI ?_ | refine w_neI ?_ | refine w_int ?_ | refine w_abs ?_ | refine w_sl ?_ | refine w_part ?_ | refine w_intO ?_ | refine w_nopart ?_ | refine w_gsub ?_ | refine w_augS ?_ | refine w_ip ?_ | refine w_lst ?_ | refine w_tup ?_ | refine w_if ?_ | refine w_and ?_ | refine w_or ?_ | refine w_tfld ?_ | refine w_forL ?_ | refine w_forT ?_ | refine w_forR1 ?_ | refine w_forR2 ?_ | refine w_forE ?_ | refine w_lcL ?_ | refine w_lcR1 ?_ | refine w_bm ?_ | refine w_call ?_ | refine w_meth ?_ | refine w_nget ?_ | refine w_nin ?_ | refine w_nput ?_ | refine w_eqS ?_ | refine w_neS ?_))
local macro_rules | `(tactic| walk_at "rs r2") => `(tactic| first | (walk_at "rs r1") | ((with_reducible refine' w_ixL ?h1 ?h2 ?h3); (case h1 => walk_at "rs sq"); (case h2 => first | rfl | exact atI_nat (j := 0) rfl | exact atI_nat (j := 1) rfl | exact atI_nat (j := 2) rfl)) | ((with_reducible refine' w_ixT ?h1 ?h2 ?h3); (case h1 => walk_at "rs sq"); (case h2 => first | rfl | exact atI_nat (j := 0) rfl | exact atI_nat (j := 1) rfl | exact atI_nat (j := 2) rfl)) | ((with_reducible refine' w_cutL ?h1 ?_); (case h1 => walk_at "rs sq"); intro q hq) | ((with_reducible refine' w_cat ?h1 ?h2 ?h3 ?_); (case h1 => walk_at "rs hp"); (case h2 => walk_at "rs hp"); (case h3 => walk_at "rs sz"); intro q hq) | ((with_reducible refine' w_small ?h1 ?_); (case h1 => exact Nat.le_of_ble_eq_true rfl); intro q hq) | ((with_reducible refine' w_setL ?h1 ?h2 ?_); (case h1 => walk_at "rs hp"); (case h2 => rfl)) | ((with_reducible refine' w_getL ?h0 ?h1 ?h2 ?_); (case h0 => rfl); (case h1 => walk_at "rs sq"); (case h2 => rfl)) | ((with_reducible refine' w_lenL ?h1 ?_); (case h1 => walk_at "rs sq")) | ((with_reducible refine' w_lenT ?h1 ?_); (case h1 => walk_at "rs sq")) | ((with_reducible refine' w_fld ?h1 ?h2 ?h3 ?h4 ?_); (case h1 => assumption); (case h2 => assumption); (case h3 => walk_at "rs hp"); (case h4 => assumption)) | ((with_reducible refine' w_methAt ?h1 ?h2 ?_); (case h1 => walk_at "rs hp"); (case h2 => assumption)) | ((with_reducible refine' w_tyL ?h1 ?_); (case h1 => walk_at "rs sq")) | ((with_reducible refine' w_append ?h1 ?h2 ?_); (case h1 => walk_at "rs hp"); (case h2 => assumption)) | ((with_reducible refine' w_I ?h1 ?_); (case h1 => walk_at "rs ar")))
local macro_rules | `(tactic| walk_at "rs rd") => `(tactic| repeat (walk_at "rs r2"))
mutual
/-- small data: whole numbers below 10 ^ 12, short texts, no dict -/
def okD : PyData → Bool
  | .none | .bool _ => true
  | .int i => decide (i.natAbs < 10 ^ 12)
  | .str x => strOk x && decide (x.cps.size ≤ 1000)
  | .list xs | .tuple xs => okDs xs
  | .dict _ => false
def okDs : List PyData → Bool
  | [] => true
  | x :: xs => okD x && okDs xs
end
mutual
/-- how many things stand in it -/
def cnt : PyData → Nat
  | .none | .bool _ | .int _ | .str _ | .dict _ => 1
  | .list xs | .tuple xs => cnts xs + 1
def cnts : List PyData → Nat
  | [] => 0
  | x :: xs => cnt x + cnts xs
end
mutual
theorem okD_lay : ∀ d : PyData, okD d = true → d.canLay0 = true
  | .none, _ => rfl
  | .bool _, _ => rfl
  | .int _, _ => rfl
  | .str x, h => by
    have q : (strOk x && decide (x.cps.size ≤ 1000)) = true := h
    rw [Bool.and_eq_true] at q
    exact q.1
  | .list xs, h => okDs_lay xs h
  | .tuple xs, h => okDs_lay xs h
  | .dict _, h => by cases h
theorem okDs_lay : ∀ xs : List PyData, okDs xs = true → canLayAll0 xs = true
  | [], _ => rfl
  | x :: xs, h => by
    have q : (okD x && okDs xs) = true := h
    rw [Bool.and_eq_true] at q
    show (canLay0 x && canLayAll0 xs) = true
    rw [okD_lay x q.1, okDs_lay xs q.2]
    rfl
end
mutual
theorem okD_short : ∀ d : PyData, okD d = true → d.intsShort 13 = true
  | .none, _ => rfl
  | .bool _, _ => rfl
  | .int i, h => decide_eq_true (shown_int_le (of_decide_eq_true (show decide (i.natAbs < 10 ^ 12) = true from h)))
  | .str x, _ => rfl
  | .list xs, h => okDs_short xs h
  | .tuple xs, h => okDs_short xs h
  | .dict _, h => by cases h
theorem okDs_short : ∀ xs : List PyData, okDs xs = true → intsShortAll 13 xs = true
  | [], _ => rfl
  | x :: xs, h => by
    have q : (okD x && okDs xs) = true := h
    rw [Bool.and_eq_true] at q
    show (intsShort 13 x && intsShortAll 13 xs) = true
    rw [okD_short x q.1, okDs_short xs q.2]
    rfl
end
theorem small_log {i : Int} (h : i.natAbs < 10 ^ 12) : i.natAbs.log2 < 40 := by
  by_cases z : i.natAbs = 0
  · rw [z]; decide
  · exact (Nat.log2_lt z).mpr (Nat.lt_of_lt_of_le h (by decide))
mutual
theorem okD_show : ∀ d : PyData, okD d = true → d.showable = true
  | .none, _ => rfl
  | .bool _, _ => rfl
  | .int i, h => decide_eq_true (Nat.lt_trans (small_log (of_decide_eq_true (show decide (i.natAbs < 10 ^ 12) = true from h))) (by decide))
  | .str x, _ => rfl
  | .list xs, h => okDs_show xs h
  | .tuple xs, h => okDs_show xs h
  | .dict _, h => by cases h
theorem okDs_show : ∀ xs : List PyData, okDs xs = true → showableAll xs = true
  | [], _ => rfl
  | x :: xs, h => by
    have q : (okD x && okDs xs) = true := h
    rw [Bool.and_eq_true] at q
    show (showable x && showableAll xs) = true
    rw [okD_show x q.1, okDs_show xs q.2]
    rfl
end
mutual
theorem okD_weight : ∀ d : PyData, okD d = true → d.weight + 1 ≤ 1003 * cnt d
  | .none, _ => by decide
  | .bool _, _ => by show 0 + 1 ≤ 1003 * 1; decide
  | .int i, h => by
    have q := small_log (of_decide_eq_true (show decide (i.natAbs < 10 ^ 12) = true from h))
    show (if i == 0 then 0 else i.natAbs.log2 + 1) + 1 ≤ 1003 * 1
    split <;> omega
  | .str x, h => by
    have q : (strOk x && decide (x.cps.size ≤ 1000)) = true := h
    rw [Bool.and_eq_true, decide_eq_true_eq] at q
    show x.cps.size + 1 ≤ 1003 * 1
    omega
  | .list xs, h => by
    have q := okDs_weight xs h
    show weightAll xs + 1 ≤ 1003 * (cnts xs + 1)
    omega
  | .tuple xs, h => by
    have q := okDs_weight xs h
    show weightAll xs + 1 ≤ 1003 * (cnts xs + 1)
    omega
  | .dict _, h => by cases h
theorem okDs_weight : ∀ xs : List PyData, okDs xs = true → weightAll xs ≤ 1003 * cnts xs
  | [], _ => Nat.zero_le _
  | x :: xs, h => by
    have q : (okD x && okDs xs) = true := h
    rw [Bool.and_eq_true] at q
    have q1 := okD_weight x q.1
    have q2 := okDs_weight xs q.2
    show weight x + 1 + weightAll xs ≤ 1003 * (cnt x + cnts xs)
    omega
end
/-- data that repr and == may be asked of -/
structure Good (d : PyData) : Prop where
  ok : okD d = true
  deep : d.depth ≤ 60
  few : cnt d ≤ 1000
theorem Good.lay {d : PyData} (h : Good d) : layable0 d = true := by
  have w := okD_weight d h.ok
  have f := h.few
  have dp := h.deep
  unfold layable0
  rw [okD_lay d h.ok, decide_eq_true (show depth d ≤ 64 by omega), decide_eq_true (show weight d ≤ 2 ^ 20 by omega)]
  rfl
theorem Good.text {d : PyData} (h : Good d) : d.shown.length ≤ sizeLine := shown_fits_of_layable0 (B := 13) (by decide) (by decide) h.lay (okD_short d h.ok)
theorem Good.shaped {d : PyData} (h : Good d) : SeqAt.shaped d = true := by
  have dp := h.deep
  unfold SeqAt.shaped
  rw [okD_lay d h.ok, decide_eq_true (show d.depth ≤ 64 by omega)]
  rfl
theorem Good.eqv {d : PyData} (h : Good d) : PyData.eqv d d = true := SeqAt.eqv_refl d (okD_lay d h.ok)
theorem Good.noD {d : PyData} (h : Good d) : d.hasDict = false := hasDict_of_layable h.lay
/-- repr(x) of small data -/
def reprOf : PyData → Str
  | .int i => toString i
  | d => d.shown
def rRepr (K : PySem.W.Frag) : List V → Hp → VK → Prop := fun xs H Q => ∃ x d, xs = [x] ∧ Dp K H x d ∧ Good d ∧ (∀ b, d ≠ .bool b) ∧ (d ≠ PyData.none) ∧ (∀ s, d ≠ .str s) ∧ Q (.str (reprOf d)) H
theorem c_repr {X : Cx} (hgd : X.A.guards = some []) (hu : X.A.units + 128 < cLine) : CallR X (.builtin "repr") (rRepr X.K) := by
  intro pins s σ H xs us Q I r h
  obtain ⟨x, d, rfl, hd, gd, n1, n2, n3, q⟩ := h
  cases hd with
  | non => exact absurd rfl n2
  | bl b => exact absurd rfl (n1 b)
  | str y => exact absurd rfl (n3 y)
  | int i => exact SkE.call_repr_int pins s σ H _ us Q I r ⟨i, rfl, Nat.lt_trans (small_log (of_decide_eq_true (show decide (i.natAbs < 10 ^ 12) = true from gd.ok))) (by decide), q⟩
  | lst h1 h2 => exact call_reprD hgd hu pins s σ H _ us Q I r ⟨_, _, rfl, .lst h1 h2, okD_show _ gd.ok, gd.noD, gd.deep, gd.text, q⟩
  | tup h1 h2 => exact call_reprD hgd hu pins s σ H _ us Q I r ⟨_, _, rfl, .tup h1 h2, okD_show _ gd.ok, gd.noD, gd.deep, gd.text, q⟩
theorem w_repr {K : PySem.W.Frag} {x : V} {d : PyData} {H : Hp} {Q : VK} (h1 : Dp K H x d) (g : Good d) (n : (∃ i, d = .int i) ∨ (∃ xs, d = .list xs) ∨ ∃ xs, d = .tuple xs) (k : Q (.str (reprOf d)) H) : rRepr K [x] H Q :=
  ⟨x, d, rfl, h1, g, fun b z => by rcases n with ⟨_, n⟩ | ⟨_, n⟩ | ⟨_, n⟩ <;> (rw [n] at z; cases z), fun z => by rcases n with ⟨_, n⟩ | ⟨_, n⟩ | ⟨_, n⟩ <;> (rw [n] at z; cases z), fun s z => by rcases n with ⟨_, n⟩ | ⟨_, n⟩ | ⟨_, n⟩ <;> (rw [n] at z; cases z), k⟩
def spAlike (K : PySem.W.Frag) : Sp := fun vs H Q _ => ∃ (x y : V) (d : PyData), vs = [x, y] ∧ Dp K H x d ∧ Dp K H y d ∧ Good d ∧ ((∃ i, d = .int i) ∨ (∃ xs, d = .list xs) ∨ ∃ xs, d = .tuple xs) ∧ Q (.bl true) H
section
variable {P : Program} {w : World} {K : PySem.W.Frag} {mg : Str → Option Value} {base : Heap}
theorem scAlike : FnScope ["found", "due"] ["found", "due"] (defScope sAlike) := ⟨rfl, rfl, rfl, by decide +kernel, rfl, by decide +kernel, by decide +kernel⟩
theorem ok_alike {f : Addr} {fd : FuncData} (F : Fun K "_law_alike" "_law_alike" sAlike f fd) (mR : mg "repr" = Option.none) : FnG P w K mg base CX0 1 f fd ["found", "due"] (spAlike K) := by
  refine okG F scAlike (fun vs H Q E h => ?_) (fun cdv A outer s H vs Q E hgd hr h => ?_)
  · obtain ⟨x, y, d, rfl, _⟩ := h
    rfl
  · obtain ⟨x, y, d, rfl, h1, h2, gd, n, k⟩ := h
    have hu : (A.deeper (envOfC "_law_alike" (defScope sAlike) s.heap.objs.size f cdv)).units + 128 < cLine := by
      have := hr.un
      omega
    refine ⟨_, pss_one (ps_ret (pe_and (pe_cmpR op_eq (pe_callB (c_repr hgd hu) (by rfl) mR (by decide +kernel) (pa_cons (pv 0) pa_nil)) (pe_callB (c_repr hgd hu) (by rfl) mR (by decide +kernel) (pa_cons (pv 1) pa_nil)) (nomark _)) (pe_one (pe_cmpR (op_eqD hr.units) (pv 0) (pv 1) (nomark _))))), ?_⟩
    refine w_ret (w_andV (w_op (w_cb (w_cons (w_var rfl (w_nil (w_repr h1 gd n (w_cb (w_cons (w_var rfl (w_nil (w_repr h2 gd n (w_eqS ?_)))))))))))))
    refine w_bool ?_
    rw [decide_eq_true rfl, if_pos rfl]
    refine w_op (w_var rfl (w_var rfl ⟨d, d, h1, h2, gd.shaped, gd.shaped, ?_⟩))
    rw [gd.eqv]
    exact k
end
mutual
def toPy : NestedKey → PyData
  | .none => .none
  | .num i => .int i
  | .text x => .str x
  | .tup ks => .tuple (toPys ks)
def toPys : List NestedKey → List PyData
  | [] => []
  | k :: ks => toPy k :: toPys ks
end
mutual
theorem NK.dp {K : PySem.W.Frag} {H : Hp} : ∀ (k : NestedKey) (v : V), NK H k v → Dp K H v (toPy k)
  | .none, _, h => by cases h; exact .non
  | .num i, _, h => by cases h; exact .int i
  | .text x, _, h => by cases h; exact .str x
  | .tup ks, _, h => by
    cases h with
    | tup e r => exact .tup (SqT.of e) (NKs.dp ks _ r)
theorem NKs.dp {K : PySem.W.Frag} {H : Hp} : ∀ (ks : List NestedKey) (vs : List V), NKs H ks vs → DpAll K H vs (toPys ks)
  | [], _, h => by cases h; exact .nil
  | k :: ks, _, h => by
    cases h with
    | cons a r => exact .cons (NK.dp k _ a) (NKs.dp ks _ r)
end
end Rs

set_option Elab.async false
set_option linter.all false
set_option maxRecDepth 100000
set_option maxHeartbeats 4000000
/-! _law_row, _law_asked -/
namespace Rs
open PySem L2 PySem.Spec PyProof.Rows
local macro_rules | `(tactic| walk_at "rs ne") => `(tactic| first | assumption | (apply Ne.symm; assumption) | (apply ne_n1; assumption; walk_at "rs hp") | (apply ne_n2; assumption; walk_at "rs hp"))
local macro_rules | `(tactic| walk_at "rs hp") => `(tactic| first | assumption | exact upd_same | (apply hp_ne; (walk_at "rs ne"); (walk_at "rs hp")))
local macro_rules | `(tactic| walk_at "rs sq") => `(tactic| first | assumption | (apply SqL.of; walk_at "rs hp") | (apply SqT.of; walk_at "rs hp"))
local macro_rules | `(tactic| walk_at "rs sz") => `(tactic| first | decide | (rw [sizeLine_eq]; simp; done) | (rw [sizeLine_eq]; simp; omega) | (rw [sizeLine_eq]; omega))
local macro_rules | `(tactic| walk_at "rs ar") => `(tactic| first | assumption | (show (0 : Int) < _; first | assumption | decide | omega) | exact Or.inr ⟨by decide, by decide⟩ | exact Or.inl ⟨by decide, by decide⟩ | exact Or.inl ⟨by omega, by omega⟩ | exact Or.inr ⟨by omega, by omega⟩ | exact ⟨by decide, by decide, by decide⟩ | exact ⟨by decide, by decide⟩ | exact ⟨by omega, by omega⟩)
local macro_rules | `(tactic| walk_at "rs r1") => `(tactic| with_reducible (first | refine w_var rfl ?_ | refine w_c ?_ | refine w_op ?_ | refine w_un ?_ | refine w_test ?_ | refine w_B ?_ | refine w_bool ?_ | refine w_not ?_ | refine w_cb ?_ | refine w_nil ?_ | refine w_cons ?_ | refine w_asg ?_ | refine w_name ?_ | refine w_seq ?_ | refine w_ret ?_ | refine w_drop ?_ | refine w_next ?_ | refine w_ifS ?_ | refine w_I0 ?_ | refine w_eqI ?_ | refine w_neI ?_ | refine w_int ?_ | refine w_abs ?_ | refine w_sl ?_ | refine w_part ?_ | refine w_intO ?_ | refine w_nopart ?_ | refine w_gsub ?_ | refine w_augS ?_ | refine w_ip ?_ | refine w_lst ?_ | refine w_tup ?_ | refine w_if ?_ | refine w_and ?_ | refine w_or ?_ | refine w_tfld ?_ | refine w_forL ?_ | refine w_forT ?_ | refine w_forR1 ?_ | refine w_forR2 ?_ | refine w_forE ?_ | refine w_lcL ?_ | refine w_lcR1 ?_ | refine w_bm ?_ | refine w_call ?_ | refine w_meth ?_ | refine w_nget ?_ | refine w_nin ?_ | refine w_nput ?_ | refine w_eqS ?_ | refine w_neS ?_))
local macro_rules | `(tactic| walk_at "rs r2") => `(tactic| first | (walk_at "rs r1") | ((with_reducible refine' w_ixL ?h1 ?h2 ?h3); (case h1 => walk_at "rs sq"); (case h2 => first | rfl | exact atI_nat (j := 0) rfl | exact atI_nat (j := 1) rfl | exact atI_nat (j := 2) rfl)) | ((with_reducible refine' w_ixT ?h1 ?h2 ?h3); (case h1 => walk_at "rs sq"); (case h2 => first | rfl | exact atI_nat (j := 0) rfl | exact atI_nat (j := 1) rfl | exact atI_nat (j := 2) rfl)) | ((with_reducible refine' w_cutL ?h1 ?_); (case h1 => walk_at "rs sq"); intro q hq) | ((with_reducible refine' w_cat ?h1 ?h2 ?h3 ?_); (case h1 => walk_at "rs hp"); (case h2 => walk_at "rs hp"); (case h3 => walk_at "rs sz"); intro q hq) | ((with_reducible refine' w_small ?h1 ?_); (case h1 => exact Nat.le_of_ble_eq_true rfl); intro q hq) | ((with_reducible refine' w_setL ?h1 ?h2 ?_); (case h1 => walk_at "rs hp"); (case h2 => rfl)) | ((with_reducible refine' w_getL ?h0 ?h1 ?h2 ?_); (case h0 => rfl); (case h1 => walk_at "rs sq"); (case h2 => rfl)) | ((with_reducible refine' w_lenL ?h1 ?_); (case h1 => walk_at "rs sq")) | ((with_reducible refine' w_lenT ?h1 ?_); (case h1 => walk_at "rs sq")) | ((with_reducible refine' w_fld ?h1 ?h2 ?h3 ?h4 ?_); (case h1 => assumption); (case h2 => assumption); (case h3 => walk_at "rs hp"); (case h4 => assumption)) | ((with_reducible refine' w_methAt ?h1 ?h2 ?_); (case h1 => walk_at "rs hp"); (case h2 => assumption)) | ((with_reducible refine' w_tyL ?h1 ?_); (case h1 => walk_at "rs sq")) | ((with_reducible refine' w_append ?h1 ?h2 ?_); (case h1 => walk_at "rs hp"); (case h2 => assumption)) | ((with_reducible refine' w_I ?h1 ?_); (case h1 => walk_at "rs ar")))
local macro_rules | `(tactic| walk_at "rs rd") => `(tactic| repeat (walk_at "rs r2"))
abbrev sRow : Stmt := top 15
abbrev sAsked : Stmt := top 16
/-- the keys of the law's letters -/
def keysK : List NestedKey := [.text "a", .text "b", .text "a1", .tup [.text "a"], .tup [.text "a", .num 1], .tup [.text "a", .text "1"], .tup [.text "read", .num 0], .tup [.text "read", .num 10], .tup [.text "b", .num 1, .text "a"], .tup [], .text "", .tup [.text "", .num 0], .tup [.num 1], .tup [.text "1"]]
def opsS : List Str := ["f", "g", "add", "7", "0", "f1"]
/-- a row of the law over a graph of so many nodes -/
def IsRow (m : Nat) (k : NestedKey) : Prop := (∃ key ∈ keysK, k = .tup [.text "letter", key]) ∨ ∃ (o : Str) (ns : List Int), o ∈ opsS ∧ ns.length ≤ 3 ∧ (∀ n ∈ ns, 0 ≤ n ∧ n < (m : Int)) ∧ k = .tup [.text "op", .text o, .tup (ns.map .num)]
def spRow : Sp := fun vs H Q _ => ∃ (b c : Addr) (m : Nat), vs = [.ref b, .int (m : Int)] ∧ m ≤ 1000 ∧ Bag H b c ∧ ∀ (p : Addr) (k : NestedKey) (H' : Hp), IsRow m k → NK H' k (.ref p) → H p = none → Bag H' b c → Fm [b] H H' → Q (.ref p) H'
theorem NKs.mem {H : Hp} {v : V} : ∀ {ks : List NestedKey} {vs : List V}, NKs H ks vs → v ∈ vs → ∃ k ∈ ks, NK H k v
  | [], _, h, hv => by cases h; cases hv
  | k :: ks, _, h, hv => by
    cases h with
    | cons a r =>
      rcases List.mem_cons.mp hv with rfl | hv
      · exact ⟨k, List.mem_cons_self, a⟩
      · obtain ⟨k', h1, h2⟩ := NKs.mem r hv
        exact ⟨k', List.mem_cons_of_mem _ h1, h2⟩
/-- tuples stay where only lists, dicts, objects may change -/
theorem Bag.tp {H H' : Hp} {b c : Addr} (B : Bag H b c) (f : Fm [b] H H') : ∀ a xs, H a = some (.tup xs) → H' a = some (.tup xs) := fun a xs e => f a _ e (not_in1 fun z => by
  obtain ⟨_, _, _, _, h1, _⟩ := B
  rw [z, h1] at e
  cases e)
section
variable {P : Program} {w : World} {K : PySem.W.Frag} {mg : Str → Option Value} {base : Heap} {C CT fT CN : Addr}
theorem scRow : FnScope ["bag", "many", "keys", "parts", "part"] ["bag", "many"] (defScope sRow) := ⟨rfl, rfl, rfl, by decide +kernel, rfl, by decide +kernel, by decide +kernel⟩
theorem ok_row {f fT fS : Addr} {fd fdT fdS : FuncData} (F : Fun K "_law_row" "_law_row" sRow f fd) (T : TxtB K mg) (mTu : mg "tuple" = none) (mR : mg "range" = none)
    (mT : mg "_law_take" = some (.ref fT)) (kT : PySem.W.keepIn K (.ref fT) = true) (bT : Binds K fdT ["bag", "many"] []) (GT : FnOk P w K mg base CX0 1 fT fdT ["bag", "many"] spTake)
    (mS : mg "_law_some" = some (.ref fS)) (kS : PySem.W.keepIn K (.ref fS) = true) (bS : Binds K fdS ["bag", "things"] []) (GS : FnOk P w K mg base CX0 2 fS fdS ["bag", "things"] (spSome K)) :
    FnOk P w K mg base CX0 3 f fd ["bag", "many"] spRow := by
  refine F.ok scRow (fun vs H Q E h => ?_) (fun cdv A outer s H vs Q E hr h => ?_)
  · obtain ⟨b, c, m, rfl, _⟩ := h
    rfl
  · obtain ⟨b, c, m, rfl, hm, B, k⟩ := h
    have nd := scRow.nd
    have hr1 : Room 1 _ := hr.mono (by decide)
    refine ⟨_, (Evl.pss_cut (ps_set (i := 2) nd rfl (Or.inl rfl) (pe_lst (pa_cons pe_str (pa_cons pe_str (pa_cons pe_str (pa_cons (pe_tup (pa_cons pe_str pa_nil)) (pa_cons (pe_tup (pa_cons pe_str (pa_cons pe_int pa_nil))) (pa_cons (pe_tup (pa_cons pe_str (pa_cons pe_str pa_nil))) (pa_cons (pe_tup (pa_cons pe_str (pa_cons pe_int pa_nil))) (pa_cons (pe_tup (pa_cons pe_str (pa_cons pe_int pa_nil))) (pa_cons (pe_tup (pa_cons pe_str (pa_cons pe_int (pa_cons pe_str pa_nil)))) (pa_cons (pe_tup pa_nil) (pa_cons pe_str (pa_cons (pe_tup (pa_cons pe_str (pa_cons pe_int pa_nil))) (pa_cons (pe_tup (pa_cons pe_int pa_nil)) (pa_cons (pe_tup (pa_cons pe_str pa_nil)) pa_nil)))))))))))))))) (pss_cons (ps_if (PW.pt (pw_or (pt_cmpR op_eq (pv 1) pe_int (nomark _)) (pw_or1 (pt_cmpR op_eq (pe_call GT hr1 rfl mT kT bT .nil pass0 (pa_cons (pv 0) (pa_cons pe_int pa_nil))) pe_int (nomark _))))) (pss_one (ps_ret (pe_tup (pa_cons pe_str (pa_cons (pe_call GS hr rfl mS kS bS .nil pass0 (pa_cons (pv 0) (pa_cons (pv 2) pa_nil))) pa_nil))))) pss_nil) (pss_cons (ps_set (i := 3) nd rfl (Or.inl rfl) (pe_callTy call_tuple_of (by rfl) mTu (by decide +kernel) (pa_cons (pe_lc (own := [("part", 4)]) (g := gName 4) (tt := tYes) rfl nd (pi_range1 rfl mR (pa_cons (pe_call GS hr rfl mS kS bS .nil pass0 (pa_cons (pv 0) (pa_cons (pe_lst (pa_cons pe_int (pa_cons pe_int (pa_cons pe_int (pa_cons pe_int (pa_cons pe_int (pa_cons pe_int pa_nil))))))) pa_nil))) pa_nil)) (blkOk_by (N := ["bag", "many", "keys", "parts", "part"]) (sc := defScope sRow) (by decide +kernel)) (fun _ _ _ _ _ => pg_name (i := 4) nd rfl (Or.inl rfl)) (fun _ _ _ _ _ => pts_nil) (fun _ _ _ _ _ => (pe_call GT hr1 rfl mT kT bT .nil pass0 (pa_cons (pv 0) (pa_cons (pv 1) pa_nil))))) pa_nil))) (pss_one (ps_ret (pe_tup (pa_cons pe_str (pa_cons (pe_call GS hr rfl mS kS bS .nil pass0 (pa_cons (pv 0) (pa_cons (pe_lst (pa_cons pe_str (pa_cons pe_str (pa_cons pe_str (pa_cons pe_str (pa_cons pe_str (pa_cons pe_str pa_nil))))))) pa_nil))) (pa_cons (pv 3) pa_nil))))))))), ?_⟩
    refine w_cut (M := fun σ' H' => ∃ kp ks, σ' = [some (.ref b), some (.int (m : Int)), some (.ref kp), none, none] ∧ H kp = none ∧ H' kp = some (.lst ks) ∧ NKs H' keysK ks ∧ Bag H' b c ∧ Fm [] H H') ?_ ?_
    · walk_at "rs rd"
      rename_i q10 h10 q9 h9 q8 h8 q7 h7 q6 h6 q5 h5 q4 h4 q3 h3 q2 h2 q1 h1 q0 h0
      have f11 := (((((((((((Fm.refl [] H).thenNew (o := .tup [.str "a"]) h10).thenNew (o := .tup [.str "a", .int 1]) h9).thenNew (o := .tup [.str "a", .str "1"]) h8).thenNew (o := .tup [.str "read", .int 0]) h7).thenNew (o := .tup [.str "read", .int 10]) h6).thenNew (o := .tup [.str "b", .int 1, .str "a"]) h5).thenNew (o := .tup []) h4).thenNew (o := .tup [.str "", .int 0]) h3).thenNew (o := .tup [.int 1]) h2).thenNew (o := .tup [.str "1"]) h1)
      have f12 := f11.thenNew (o := .lst [.str "a", .str "b", .str "a1", .ref q10, .ref q9, .ref q8, .ref q7, .ref q6, .ref q5, .ref q4, .str "", .ref q3, .ref q2, .ref q1]) h0
      refine ⟨q0, _, rfl, f11.none h0 List.not_mem_nil, upd_same, ?_, B.frame f12 List.not_mem_nil List.not_mem_nil, f12⟩
      refine .cons (.text _) (.cons (.text _) (.cons (.text _) (.cons (.tup (by walk_at "rs hp") (.cons (.text _) .nil)) (.cons (.tup (by walk_at "rs hp") (.cons (.text _) (.cons (.num _) .nil))) (.cons (.tup (by walk_at "rs hp") (.cons (.text _) (.cons (.text _) .nil)))
        (.cons (.tup (by walk_at "rs hp") (.cons (.text _) (.cons (.num _) .nil))) (.cons (.tup (by walk_at "rs hp") (.cons (.text _) (.cons (.num _) .nil))) (.cons (.tup (by walk_at "rs hp") (.cons (.text _) (.cons (.num _) (.cons (.text _) .nil)))) (.cons (.tup (by walk_at "rs hp") .nil) (.cons (.text _)
        (.cons (.tup (by walk_at "rs hp") (.cons (.text _) (.cons (.num _) .nil))) (.cons (.tup (by walk_at "rs hp") (.cons (.num _) .nil)) (.cons (.tup (by walk_at "rs hp") (.cons (.text _) .nil)) .nil)))))))))))))
    · rintro σ' H' ⟨kp, ks, rfl, hkp, ekp, hks, B', f'⟩
      have hkb : kp ≠ b := fun z => by
        obtain ⟨_, _, _, _, h1, _⟩ := B
        rw [z, h1] at hkp
        cases hkp
      have hkl : ks.length = 14 := by rw [← hks.len]; rfl
      -- the letter
      have letter : ∀ H1, Bag H1 b c → Fm [b] H' H1 → tRet (tTup (tCons (tC (.str "letter")) (tCons (tCall (spSome K) [] E0 (tCons (tVar 0) (tCons (tVar 2) tNil))) tNil))) { nx := fun _ H' => Q .non H', rt := Q } [some (.ref b), some (.int (m : Int)), some (.ref kp), none, none] H1 := fun H1 B1 f1 => by
        walk_at "rs rd"
        have ek1 : H1 kp = some (.lst ks) := f1 _ _ ekp (not_in1 hkb)
        refine ⟨b, c, kp, ks, rfl, (by intro z; rw [z] at hkl; cases hkl), by omega, hkb, .inl (SqL.of ek1), B1, fun v H2 hv B2 f2 => ?_⟩
        walk_at "rs rd"
        rename_i p hp
        obtain ⟨key, hkey, nk⟩ := hks.mem hv
        have tp1 := B'.tp f1
        have tp2 := B1.tp f2
        have nk2 := NK.mono tp2 _ _ (NK.mono tp1 _ _ nk)
        have f3 : Fm [b] H (upd H2 p (.tup [.str "letter", v])) := ((f'.nil.trans f1).trans f2).thenNew hp
        have tp3 : ∀ a xs, H2 a = some (.tup xs) → upd H2 p (.tup [.str "letter", v]) a = some (.tup xs) := fun a xs e => (Fm.new hp : Fm [] H2 _) _ _ e List.not_mem_nil
        refine k p _ _ (.inl ⟨key, hkey, rfl⟩) (.tup upd_same (.cons (.text _) (.cons (NK.mono tp3 _ _ nk2) .nil))) (((f'.nil.trans f1).trans f2).none hp (not_in1 fun z => ?_)) (B2.frame (Fm.new hp : Fm [] H2 _) List.not_mem_nil List.not_mem_nil) f3
        obtain ⟨_, _, _, _, h1, _⟩ := B2
        rw [z, h1] at hp
        cases hp
      refine w_seq (w_ifS (w_or ?_))
      walk_at "rs rd"
      refine w_ite (fun e0 => ?_) (fun e0 => ?_)
      · rw [if_pos rfl]
        exact letter H' B' (Fm.refl _ _)
      · walk_at "rs rd"
        refine ⟨b, c, _, rfl, by decide, by decide, B', fun v H1 v0 v1 B1 f1 => ?_⟩
        walk_at "rs rd"
        refine w_ite (fun e1 => ?_) (fun e1 => ?_)
        · exact letter H1 B1 f1
        · walk_at "rs rd"
          rename_i ip hip
          have hib : ip ≠ b := fun z => by
            obtain ⟨_, _, _, _, h1, _⟩ := B1
            rw [z, h1] at hip
            cases hip
          refine ⟨b, c, ip, _, rfl, List.cons_ne_nil _ _, by decide, hib, .inl (SqL.of upd_same), B1.frame (Fm.new hip : Fm [] H1 _) List.not_mem_nil List.not_mem_nil, fun v2 H2 hv2 B2 f2 => ?_⟩
          obtain ⟨j, rfl, j0, j1⟩ : ∃ j : Int, v2 = .int j ∧ 0 ≤ j ∧ j ≤ 3 := by
            simp only [List.mem_cons, List.not_mem_nil, or_false] at hv2
            rcases hv2 with rfl | rfl | rfl | rfl | rfl | rfl <;> exact ⟨_, rfl, by decide, by decide⟩
          have fA : Fm [b] H H2 := (f'.nil.trans f1).trans ((Fm.new hip : Fm [b] H1 _).trans f2)
          walk_at "rs rd"
          refine ⟨j, rfl, by omega, by omega, fun dp hdp => ?_⟩
          have hdb : dp ≠ b := fun z => by
            obtain ⟨_, _, _, _, h1, _⟩ := B2
            rw [z, h1] at hdp
            cases hdp
          have hdc : c ≠ dp := fun z => by
            obtain ⟨_, _, _, _, _, _, _, h1, _⟩ := B2
            rw [← z, h1] at hdp
            cases hdp
          have hm0 : 0 < m := by omega
          have hdp0 : H dp = none := fA.none hdp (not_in1 hdb)
          refine lc_it (walk_range (lo := 0) (n := j.toNat)) (fun i H' => ∃ ns : List Int, ns.length = i ∧ (∀ n ∈ ns, 0 ≤ n ∧ n < (m : Int)) ∧ H' dp = some (.lst (ns.map V.int)) ∧ Bag H' b c ∧ Fm [b] H H')
            ⟨[], rfl, by simp, upd_same, B2.frame (Fm.new hdp : Fm [] H2 _) List.not_mem_nil List.not_mem_nil, fA.thenNew hdp⟩ (fun _ _ _ _ => trivial) ?_ ?_
          · rintro i x H3 H4 hi ⟨ns, n1, n2, n3, B3, f3⟩ ⟨rfl, rfl⟩
            refine w_name ⟨rfl, w_yes ?_⟩
            walk_at "rs rd"
            refine ⟨b, c, _, rfl, by omega, by omega, B3, fun n H5 w0 w1 B5 f5 => ?_⟩
            have e5 : H5 dp = some (.lst (ns.map V.int)) := f5 _ _ n3 (not_in1 hdb)
            refine ⟨_, e5, by rw [List.length_map, sizeLine_eq]; omega, ns ++ [n], by simp [n1], fun q hq => ?_, by simp [upd_same], ?_, (f3.trans f5).thenOwn hdp0⟩
            · rcases List.mem_append.mp hq with hq | hq
              · exact n2 q hq
              · rw [List.mem_singleton] at hq
                subst hq
                exact ⟨w0, w1⟩
            · obtain ⟨cur, seed, ix, cs, b1, b2, b3, b4, b5⟩ := B5
              exact ⟨cur, seed, ix, cs, by rw [upd_ne hdb.symm]; exact b1, b2, b3, by rw [upd_ne hdc]; exact b4, b5⟩
          · rintro H3 ⟨ns, n1, n2, n3, B3, f3⟩
            refine w_nil ?_
            refine ⟨dp, _, rfl, .inl ⟨SqL.of n3, fun tp htp => ?_⟩⟩
            have f4 : Fm [b] H (upd H3 tp (.tup (ns.map V.int))) := f3.thenNew htp
            have B4 := B3.frame (Fm.new htp (o := .tup (ns.map V.int)) : Fm [] H3 _) List.not_mem_nil List.not_mem_nil
            walk_at "rs rd"
            rename_i op hop
            have hob : op ≠ b := fun z => by
              obtain ⟨_, _, _, _, h1, _⟩ := B4
              rw [z, h1] at hop
              cases hop
            refine ⟨b, c, op, _, rfl, List.cons_ne_nil _ _, by decide, hob, .inl (SqL.of upd_same), B4.frame (Fm.new hop : Fm [] _ _) List.not_mem_nil List.not_mem_nil, fun v6 H6 hv6 B6 f6 => ?_⟩
            obtain ⟨o, rfl, ho⟩ : ∃ o : Str, v6 = .str o ∧ o ∈ opsS := by
              simp only [List.mem_cons, List.not_mem_nil, or_false] at hv6
              rcases hv6 with rfl | rfl | rfl | rfl | rfl | rfl <;> exact ⟨_, rfl, by simp [opsS]⟩
            have et6 : H6 tp = some (.tup (ns.map V.int)) := f6 _ _ ((Fm.new hop : Fm [] _ _) _ _ upd_same List.not_mem_nil) (not_in1 fun z => by
              obtain ⟨_, _, _, _, h1, _⟩ := B3
              rw [z, h1] at htp
              cases htp)
            have f7 := f4.trans ((Fm.new hop : Fm [b] _ _).trans f6)
            walk_at "rs rd"
            rename_i p hp
            refine k p _ _ (.inr ⟨o, ns, ho, by omega, n2, rfl⟩) (.tup upd_same (.cons (.text _) (.cons (.text _) (.cons (.tup (by walk_at "rs hp") (nums_nk _ ns)) .nil)))) (f7.none hp (not_in1 fun z => ?_)) (B6.frame (Fm.new hp : Fm [] _ _) List.not_mem_nil List.not_mem_nil) (f7.thenNew hp)
            obtain ⟨_, _, _, _, h1, _⟩ := B6
            rw [z, h1] at hp
            cases hp
end
end Rs

set_option Elab.async false
set_option linter.all false
set_option maxRecDepth 100000
set_option maxHeartbeats 4000000
/-! _law_asked -/
namespace Rs
open PySem L2 PySem.Spec PyProof.Rows
local macro_rules | `(tactic| walk_at "rs ne") => `(tactic| first | assumption | (apply Ne.symm; assumption) | (apply ne_n1; assumption; walk_at "rs hp") | (apply ne_n2; assumption; walk_at "rs hp"))
local macro_rules | `(tactic| walk_at "rs hp") => `(tactic| first | assumption | exact upd_same | (apply hp_ne; (walk_at "rs ne"); (walk_at "rs hp")))
local macro_rules | `(tactic| walk_at "rs sq") => `(tactic| first | assumption | (apply SqL.of; walk_at "rs hp") | (apply SqT.of; walk_at "rs hp"))
local macro_rules | `(tactic| walk_at "rs sz") => `(tactic| first | decide | (rw [sizeLine_eq]; simp; done) | (rw [sizeLine_eq]; simp; omega) | (rw [sizeLine_eq]; omega))
local macro_rules | `(tactic| walk_at "rs ar") => `(tactic| first | assumption | (show (0 : Int) < _; first | assumption | decide | omega) | exact Or.inr ⟨by decide, by decide⟩ | exact Or.inl ⟨by decide, by decide⟩ | exact Or.inl ⟨by omega, by omega⟩ | exact Or.inr ⟨by omega, by omega⟩ | exact ⟨by decide, by decide, by decide⟩ | exact ⟨by decide, by decide⟩ | exact ⟨by omega, by omega⟩)
local macro_rules | `(tactic| walk_at "rs r1") => `(tactic| with_reducible (first | refine w_var rfl ?_ | refine w_c ?_ | refine w_op ?_ | refine w_un ?_ | refine w_test ?_ | refine w_B ?_ | refine w_bool ?_ | refine w_not ?_ | refine w_cb ?_ | refine w_nil ?_ | refine w_cons ?_ | refine w_asg ?_ | refine w_name ?_ | refine w_seq ?_ | refine w_ret ?_ | refine w_drop ?_ | refine w_next ?_ | refine w_ifS ?_ | refine w_I0 ?_ | refine w_eqI ?_ | refine w_neI ?_ | refine w_int ?_ | refine w_abs ?_ | refine w_sl ?_ | refine w_part ?_ | refine w_intO ?_ | refine w_nopart ?_ | refine w_gsub ?_ | refine w_augS ?_ | refine w_ip ?_ | refine w_lst ?_ | refine w_tup ?_ | refine w_if ?_ | refine w_and ?_ | refine w_or ?_ | refine w_tfld ?_ | refine w_forL ?_ | refine w_forT ?_ | refine w_forR1 ?_ | refine w_forR2 ?_ | refine w_forE ?_ | refine w_lcL ?_ | refine w_lcR1 ?_ | refine w_bm ?_ | refine w_call ?_ | refine w_meth ?_ | refine w_nget ?_ | refine w_nin ?_ | refine w_nput ?_ | refine w_eqS ?_ | refine w_neS ?_))
local macro_rules | `(tactic| walk_at "rs r2") => `(tactic| first | (walk_at "rs r1") | ((with_reducible refine' w_ixL ?h1 ?h2 ?h3); (case h1 => walk_at "rs sq"); (case h2 => first | rfl | exact atI_nat (j := 0) rfl | exact atI_nat (j := 1) rfl | exact atI_nat (j := 2) rfl)) | ((with_reducible refine' w_ixT ?h1 ?h2 ?h3); (case h1 => walk_at "rs sq"); (case h2 => first | rfl | exact atI_nat (j := 0) rfl | exact atI_nat (j := 1) rfl | exact atI_nat (j := 2) rfl)) | ((with_reducible refine' w_cutL ?h1 ?_); (case h1 => walk_at "rs sq"); intro q hq) | ((with_reducible refine' w_cat ?h1 ?h2 ?h3 ?_); (case h1 => walk_at "rs hp"); (case h2 => walk_at "rs hp"); (case h3 => walk_at "rs sz"); intro q hq) | ((with_reducible refine' w_small ?h1 ?_); (case h1 => exact Nat.le_of_ble_eq_true rfl); intro q hq) | ((with_reducible refine' w_setL ?h1 ?h2 ?_); (case h1 => walk_at "rs hp"); (case h2 => rfl)) | ((with_reducible refine' w_getL ?h0 ?h1 ?h2 ?_); (case h0 => rfl); (case h1 => walk_at "rs sq"); (case h2 => rfl)) | ((with_reducible refine' w_lenL ?h1 ?_); (case h1 => walk_at "rs sq")) | ((with_reducible refine' w_lenT ?h1 ?_); (case h1 => walk_at "rs sq")) | ((with_reducible refine' w_fld ?h1 ?h2 ?h3 ?h4 ?_); (case h1 => assumption); (case h2 => assumption); (case h3 => walk_at "rs hp"); (case h4 => assumption)) | ((with_reducible refine' w_methAt ?h1 ?h2 ?_); (case h1 => walk_at "rs hp"); (case h2 => assumption)) | ((with_reducible refine' w_tyL ?h1 ?_); (case h1 => walk_at "rs sq")) | ((with_reducible refine' w_append ?h1 ?h2 ?_); (case h1 => walk_at "rs hp"); (case h2 => assumption)) | ((with_reducible refine' w_I ?h1 ?_); (case h1 => walk_at "rs ar")))
local macro_rules | `(tactic| walk_at "rs rd") => `(tactic| repeat (walk_at "rs r2"))
/-- what may be asked of a graph with so many nodes -/
def AskK (n : Nat) (k : NestedKey) : Prop := (∃ key, k = .tup [.text "letter", key] ∧ key.depth ≤ 7) ∨ ∃ (o : Str) (ns : List Int), k = .tup [.text "op", .text o, .tup (ns.map .num)] ∧ ∀ n' ∈ ns, 0 ≤ n' ∧ n' < (n : Int)
def spAsked (P : Program) (w : World) (C CT : Addr) : Sp := fun vs H Q E => ∃ (g p l d : Addr) (L : List NestedKey) (k : NestedKey), vs = [.ref g, .ref p] ∧ GraphAt P w C H g l d L ∧ NK H k (.ref p) ∧ AskK L.length k ∧
  (∀ (i : Nat) H', L[i]? = some k → GraphAt P w C H' g l d L → Fm [] H H' → Q (.int (i : Int)) H') ∧
  (k ∉ L → L.length < 3000 → ∀ H', GraphAt P w C H' g l d (L ++ [k]) → Fm [l, d] H H' → Q (.int (L.length : Int)) H') ∧
  (k ∉ L → ¬ L.length < 3000 → ∀ dd H', H' dd = some (.xd (tlD (.str "nodes") (.int 3000))) → H dd = none → GraphAt P w C H' g l d L → Fm [] H H' → E (.ref CT) (some dd) H')
theorem nums_vals {H : Hp} : ∀ {ns : List Int} {vs : List V}, NKs H (ns.map .num) vs → vs = ns.map V.int
  | [], _, h => by cases h; rfl
  | n :: r, _, h => by
    cases h with
    | cons a b =>
      cases a
      rw [nums_vals b]
      rfl
section
variable {P : Program} {w : World} {K : PySem.W.Frag} {mg : Str → Option Value} {base : Heap} {C CT fT CN : Addr}
theorem scAsked : FnScope ["graph", "row"] ["graph", "row"] (defScope sAsked) := ⟨rfl, rfl, rfl, by decide +kernel, rfl, by decide +kernel, by decide +kernel⟩
theorem ok_asked {f fL fN : Addr} {fd fdL fdN : FuncData} (F : Fun K "_law_asked" "_law_asked" sAsked f fd) (T : TxtG P K mg C CT fT CN) (GL : FnOk P w K mg base (L2.CX P w) 4 fL fdL ["self", "key"] (spLetter P w C CT)) (bL : Binds K fdL ["self", "key"] []) (mL : Meth K C "letter" fL)
    (GN : FnOk P w K mg base (L2.CX P w) 4 fN fdN ["self", "op", "parts"] (spNode P w C CT CN)) (bN : Binds K fdN ["self", "op", "parts"] []) (mN : Meth K C "node" fN) :
    FnOk P w K mg base (L2.CX P w) 5 f fd ["graph", "row"] (spAsked P w C CT) := by
  refine F.okX scAsked (fun vs H Q E h => ?_) (fun cdv A outer s H vs Q E hr h => ?_)
  · obtain ⟨g, p, l, d, L, k, rfl, _⟩ := h
    rfl
  · obtain ⟨g, p, l, d, L, k, rfl, G, nk, ak, q1, q2, q3⟩ := h
    refine ⟨_, (pss_one (ps_ret (pe_ifExp (pt_cmpR op_eq (pe_ix ix_tup (pv 1) pe_int (fun _ _ => rfl)) pe_str (nomark _)) (pe_meth (E := E) (pv 0) T.cl mL GL hr bL .nil (passes_call (takes_of rfl rfl rfl rfl) fun _ _ _ _ h => h) (pa_cons (pe_ix ix_tup (pv 1) pe_int (fun _ _ => rfl)) pa_nil)) (pe_meth (E := E) (pv 0) T.cl mN GN hr bN .nil (passes_call (takes_of rfl rfl rfl rfl) fun _ _ _ _ h => h) (pa_cons (pe_ix ix_tup (pv 1) pe_int (fun _ _ => rfl)) (pa_cons (pe_ix ix_tup (pv 1) pe_int (fun _ _ => rfl)) pa_nil)))))), ?_⟩
    have nL : (gf l d).lookup ("letter" : Str) = none := gf_no _ _ (by decide +kernel) (by decide +kernel)
    have nN : (gf l d).lookup ("node" : Str) = none := gf_no _ _ (by decide +kernel) (by decide +kernel)
    obtain ⟨dx, vs, h1, h2, h3, h4, h5, h6, h7⟩ := id G
    rcases ak with ⟨key, rfl, hd⟩ | ⟨o, ns, rfl, hb⟩
    · cases nk with
      | tup ea ra =>
        cases ra with
        | cons r1 r2 =>
          cases r1
          cases r2 with
          | cons r2 r3 =>
            cases r3
            walk_at "rs rd"
            refine w_ite (fun e => ?_) (fun e => absurd rfl e)
            walk_at "rs rd"
            exact ⟨g, l, d, L, key, _, rfl, G, r2, hd, q1, q2, q3⟩
    · cases nk with
      | tup ea ra =>
        cases ra with
        | cons r1 r2 =>
          cases r1
          cases r2 with
          | cons r2 r3 =>
            cases r2
            cases r3 with
            | cons r3 r4 =>
              cases r4
              cases r3 with
              | tup ep rp =>
                obtain rfl := nums_vals rp
                walk_at "rs rd"
                refine w_ite (fun e => absurd e (by decide +kernel)) (fun e => ?_)
                walk_at "rs rd"
                refine ⟨g, l, d, _, L, o, ns, rfl, G, ep, fun ⟨n, hn, bad⟩ => ?_, fun _ => ⟨q1, q2, q3⟩⟩
                have := hb n hn
                omega
end
end Rs

set_option Elab.async false
set_option linter.all false
set_option maxRecDepth 100000
set_option maxHeartbeats 4000000
/-! try with several clauses, some of them with a name -/
namespace Rs
open PySem L2 PySem.Spec PyProof.Rows
/-- one clause: its class, its name's slot, what its suite does -/
structure Cl where
  c : Value
  i : Option Nat
  ts : Addr → Value → Option Addr → TS
/-- the ends behind a suite, its name gone -/
def endAs (i : Option Nat) (D : Ends) : Ends := match i with
  | none => D
  | some i => { nx := fun σ' H' => D.nx (σ'.set i none) H', rt := D.rt, bk := fun σ' H' => D.bk (σ'.set i none) H', ct := fun σ' H' => D.ct (σ'.set i none) H' }
def slotAs (i : Option Nat) (a : Addr) (σ : L2.St) : L2.St := match i with
  | none => σ
  | some i => σ.set i (some (.ref a))
def wCl (K : PySem.W.Frag) (Wout : WX) (D : Ends) : List Cl → WX
  | [] => Wout
  | k :: r => fun cls d σ H => ∃ b, PySem.W.exmOne K cls k.c = some b ∧ (b = true → ∀ a, H a = none → k.ts a cls d (endAs k.i D) (slotAs k.i a σ) H) ∧ (b = false → wCl K Wout D r cls d σ H)
inductive ClsOk (X : Cx) : List ExceptHandler → List Cl → Prop
  | nil : ClsOk X [] []
  | plain {x : Str} {c : Value} {ts : Addr → Value → Option Addr → TS} {b₀ : Stmt} {suite : List Stmt} {np pos' : Pos} {hds : List ExceptHandler} {l : List Cl} (hc : Names X x c)
      (hsu : ∀ (a : Addr) (oe : Obj) (cls : Value) (d : Option Addr) (pn : List (Addr × Obj)), Zc cls d oe → (∃ vs, oe.data = .fields vs) → PSs (X.suite a ((a, oe) :: pn)) (b₀ :: suite) (ts a cls d)) (r : ClsOk X hds l) :
      ClsOk X (.ExceptHandler (some (.Name x np)) none (b₀ :: suite) pos' :: hds) (⟨c, none, ts⟩ :: l)
  | named {x n : Str} {i : Nat} {c : Value} {ts : Addr → Value → Option Addr → TS} {b₀ : Stmt} {suite : List Stmt} {np pos' : Pos} {hds : List ExceptHandler} {l : List Cl} (hc : Names X x c) (hi : X.N[i]? = some n) (hln : X.env.kindOf n = some .local)
      (hsu : ∀ (a : Addr) (oe : Obj) (cls : Value) (d : Option Addr) (pn : List (Addr × Obj)), Zc cls d oe → (∃ vs, oe.data = .fields vs) → PSs (X.suite a ((a, oe) :: pn)) (b₀ :: suite) (ts a cls d)) (r : ClsOk X hds l) :
      ClsOk X (.ExceptHandler (some (.Name x np)) (some n) (b₀ :: suite) pos' :: hds) (⟨c, some i, ts⟩ :: l)
section
variable {X : Cx} {body : List Stmt} {h₀ : ExceptHandler} {hds : List ExceptHandler} {l : List Cl} {pos : Pos} {tb : WX → TS} {Wout : WX}
theorem ps_try_cls (hs : X.stack = X.env :: X.outer) (hf : X.env.frame = some X.env.locals) (hN : X.N.Nodup) (tk : Takes X Wout)
    (hb : ∀ (W : WX) (pn : List (Addr × Obj)) (xe : Value → Shared → Prop), Takes (X.tr pn xe) W → PassesOwn (model X.prog X.w) X.A X.env xe → PSs (X.tr pn xe) body (tb W))
    (hh : ClsOk X (h₀ :: hds) l) : PS X (.Try body (h₀ :: hds) [] [] pos) (fun D σ H => tb (wCl X.K Wout D l) D σ H) := by
  refine ⟨fun pins s σ H D I h => ?_⟩
  have iok := I.ok
  have frX : X.A.frames = some (X.env :: X.outer) := by rw [iok.frames, hs]
  refine wpAny_Try_except ?_
  let after : Value → Shared → Prop := fun e s₁ => wpAny (model X.prog X.w) X.A (noteFrame e X.env) (fun _ s₂ => wpAny (model X.prog X.w) X.A (setFlight e none) (fun _ s₃ => wpAny (model X.prog X.w) X.A (handleBy e X.env (h₀ :: hds)) (SP X pins D) X.xe s₃) X.xe s₂) X.xe s₁
  refine wpAny_mono ((hb (wCl X.K Wout D l) (X.pn ++ pins) after (fun u s' xx => ?_) PassesOwn.looking).run [] s σ H D (I.toTry _) h) (fun f s1 hsp => ?_) (fun e s1 he => he)
  · obtain ⟨a, B, sI, pins', σ', H', cls, d, rfl, J', nb, up, sky, na, os, ag, w⟩ := xx
    have J : Inv X pins σ' H' sI := J'.ofTry iok
    have skyE : Sky B (X.env :: X.outer) a (Zc cls d) X.env.locals s'.heap := by rw [← hs]; exact sky
    show wpAny (model X.prog X.w) X.A (noteFrame (.ref a) X.env) _ _ _
    refine Sky.land Zc.steady frX hf skyE fun h3 fl3 up3 => ?_
    have J3 : Inv X pins σ' H' { s' with heap := h3 } := J.landed nb fl3.1 (up.trans up3) os ag
    obtain ⟨oe3, vs3, he3, hz3, hd3⟩ := fl3.there
    have noFr : a ∉ frs (X.env :: X.outer) := fun hm => by
      obtain ⟨_, o', e', hnf⟩ := fl3.2.2.1.mem hm
      rw [he3] at e'
      cases e'
      exact hnf _ hd3
    have nL : a ≠ X.env.locals := fun z => noFr (List.mem_filterMap.mpr ⟨X.env, List.mem_cons_self, by rw [hf, z]⟩)
    have nF : a ∉ X.fs := fun hm => by
      obtain ⟨e, he, q⟩ := List.mem_filterMap.mp hm
      exact noFr (List.mem_filterMap.mpr ⟨e, List.mem_cons_of_mem _ he, q⟩)
    have S3 := J3.suite he3 hd3 na nL nF
    have LT : PySem.W.Looks (model X.prog X.w) h3 (typeOf (.ref a)) cls := fun A Q E s k q => wpAny_typeOf_ref (k _ _ he3) (by rw [hz3.1]; exact q)
    -- a clause's class, looked up
    have named : ∀ {x : Str} {c : Value} {np : Pos} {Q : Value → Shared → Prop} {E : Value → Shared → Prop}, Names X x c → Q c { s' with heap := h3 } → wpAny (model X.prog X.w) (X.A.mark (some (.ref a))) (eval (.Name x np) X.env) Q E { s' with heap := h3 } := fun {x c np Q E} hc q => by
      obtain ⟨hg, hdbg, hm | ⟨hm, hv, hnn⟩⟩ := hc
      · exact ld_glob (X := X.suite a ((a, oe3) :: (X.pn ++ pins))) S3 hg hm q hdbg
      · exact ld_blt (X := X.suite a ((a, oe3) :: (X.pn ++ pins))) S3 hg hm hv q hnn hdbg
    have go : ∀ {hds' : List ExceptHandler} {l' : List Cl}, ClsOk X hds' l' → wCl X.K Wout D l' cls d σ' H' → wpAny (model X.prog X.w) X.A (handleBy (.ref a) X.env hds') (SP X pins D) X.xe { s' with heap := h3 } := by
      intro hds' l' hk
      induction hk with
      | nil =>
        intro w
        refine wpAny_handleBy_nil ?_
        obtain ⟨k1, k2, k3, oe, vs, Tr, oT, ts', he, hz, hd, h1, hr⟩ := id fl3
        unfold PySem.passOn
        refine wpAny_bind (wpAny_field he hd h1 ?_)
        rw [if_neg (show ¬ ((Value.ref Tr == Value.none) = true) from by simp)]
        have fin : wpAny (model X.prog X.w) X.A (setFlight (.ref a) X.env.frame) (fun _ s4 => wpAny (model X.prog X.w) X.A (throw (.ref a) : Sem Flow) (SP X pins D) X.xe s4) X.xe { s' with heap := h3 } := by
          rw [hf]
          exact HandSPX.setFlight_upZ fl3 fun h4 hh4 up4 => wpAny_throw (tk _ _ ⟨a, B, sI, pins, σ', H', cls, d, rfl, J, nb, (up.trans up3).trans up4, .inr (.inr (by rw [hs]; exact hh4)), na, os, ag, w⟩)
        first | exact wpAny_bind (wpAny_pure (wpAny_bind fin)) | exact wpAny_bind fin
      | @plain x c ts b₀ suite np pos' hds2 l2 hc hsu r ih =>
        intro w
        obtain ⟨b, hb1, hyes, hno⟩ := w
        refine wpAny_handleBy_cons (codeAny_handlers_test ?_) (by intro q; cases q)
        have LM := PySem.W.exm_one (M := model X.prog X.w) (J3.kIn) LT hb1
        refine named hc (LM.here ?_)
        cases b with
        | true =>
          refine codeAny_handlers_suite (HandSPX.lands_againZ fl3 fun h4 fl4 up4 => ?_)
          have J4 : Inv X pins σ' H' { s' with heap := h4 } := J.landed nb fl4.1 ((up.trans up3).trans up4) os ag
          obtain ⟨oe4, vs4, he4, hz4, hd4⟩ := fl4.there
          have S4 := J4.suite he4 hd4 na nL nF
          refine wpAny_mono ((hsu a oe4 cls d (X.pn ++ pins) hz4 ⟨_, hd4⟩).run [] _ _ H' _ S4 (hyes rfl a na)) (fun f s6 hsp => ?_) (fun _ _ z => False.elim z)
          match f, hsp with
          | .next, ⟨σ6, H6, S6, q6⟩ => exact ⟨_, _, S6.unsuite iok, q6⟩
          | .brk, ⟨σ6, H6, S6, q6⟩ => exact ⟨_, _, S6.unsuite iok, q6⟩
          | .cont, ⟨σ6, H6, S6, q6⟩ => exact ⟨_, _, S6.unsuite iok, q6⟩
          | .ret u, ⟨v6, σ6, H6, S6, r6, q6⟩ => exact ⟨_, _, _, S6.unsuite iok, r6, q6⟩
        | false =>
          show wpAny _ X.A (handleBy (.ref a) X.env hds2) _ _ _
          exact ih (hno rfl)
      | @named x n i c ts b₀ suite np pos' hds2 l2 hc hi hln hsu r ih =>
        intro w
        obtain ⟨b, hb1, hyes, hno⟩ := w
        refine wpAny_handleBy_cons (codeAny_handlers_test ?_) (by intro q; cases q)
        have LM := PySem.W.exm_one (M := model X.prog X.w) (J3.kIn) LT hb1
        refine named hc (LM.here ?_)
        cases b with
        | true =>
          refine codeAny_handlers_suite_as (HandSPX.lands_againZ fl3 fun h4 fl4 up4 => ?_)
          have J4 : Inv X pins σ' H' { s' with heap := h4 } := J.landed nb fl4.1 ((up.trans up3).trans up4) os ag
          obtain ⟨oe4, vs4, he4, hz4, hd4⟩ := fl4.there
          have S4 := J4.suite he4 hd4 na nL nF
          refine store_ok (X := X.suite a ((a, oe4) :: (X.pn ++ pins))) (v := .ref a) S4 hN hi (.inl hln) rfl (fun s5 S5 => ?_) (.inr hln)
          refine wpAny_mono ((hsu a oe4 cls d (X.pn ++ pins) hz4 ⟨_, hd4⟩).run [] s5 _ H' _ S5 (hyes rfl a na)) (fun f s6 hsp => ?_) (fun _ _ z => False.elim z)
          have leave : ∀ {σ6 : L2.St} {H6 : Hp} {Q : Shared → Prop}, Inv (X.suite a ((a, oe4) :: (X.pn ++ pins))) [] σ6 H6 s6 → (∀ s7, Inv X pins (σ6.set i none) H6 s7 → Q s7) →
              wpAny (model X.prog X.w) X.A (do bindName X.env n .none; unbindBehindTheSuite X.env n pos') (fun _ s7 => Q s7) X.xe s6 := fun {σ6 H6 Q} S6 hq => gone_ok (S6.unsuite iok) hN hi hln hq
          match f, hsp with
          | .next, ⟨σ6, H6, S6, q6⟩ => exact leave S6 fun s7 J7 => ⟨_, _, J7, q6⟩
          | .brk, ⟨σ6, H6, S6, q6⟩ => exact leave S6 fun s7 J7 => ⟨_, _, J7, q6⟩
          | .cont, ⟨σ6, H6, S6, q6⟩ => exact leave S6 fun s7 J7 => ⟨_, _, J7, q6⟩
          | .ret u, ⟨v6, σ6, H6, S6, r6, q6⟩ => exact leave S6 fun s7 J7 => ⟨_, _, _, J7, r6, q6⟩
        | false =>
          show wpAny _ X.A (handleBy (.ref a) X.env hds2) _ _ _
          exact ih (hno rfl)
    exact go hh w
  · match f, hsp with
    | .next, ⟨σ', H', J', q⟩ => exact wpAny_execs_nil ⟨σ', H', J'.ofTry iok, q⟩
    | .brk, ⟨σ', H', J', q⟩ => exact ⟨σ', H', J'.ofTry iok, q⟩
    | .cont, ⟨σ', H', J', q⟩ => exact ⟨σ', H', J'.ofTry iok, q⟩
    | .ret u, ⟨v, σ', H', J', r, q⟩ => exact ⟨v, σ', H', J'.ofTry iok, r, q⟩
end
end Rs

set_option Elab.async false
set_option linter.all false
set_option maxRecDepth 100000
set_option maxHeartbeats 4000000
/-! lambdas: frames that let the tables grow; _law_heard -/
namespace Rs
open PySem L2 PySem.Spec PyProof.Rows LamX
local macro_rules | `(tactic| walk_at "rs ne") => `(tactic| first | assumption | (apply Ne.symm; assumption) | (apply ne_n1; assumption; walk_at "rs hp") | (apply ne_n2; assumption; walk_at "rs hp"))
local macro_rules | `(tactic| walk_at "rs hp") => `(tactic| first | assumption | exact upd_same | (apply hp_ne; (walk_at "rs ne"); (walk_at "rs hp")))
local macro_rules | `(tactic| walk_at "rs sq") => `(tactic| first | assumption | (apply SqL.of; walk_at "rs hp") | (apply SqT.of; walk_at "rs hp"))
local macro_rules | `(tactic| walk_at "rs sz") => `(tactic| first | decide | (rw [sizeLine_eq]; simp; done) | (rw [sizeLine_eq]; simp; omega) | (rw [sizeLine_eq]; omega))
local macro_rules | `(tactic| walk_at "rs ar") => `(tactic| first | assumption | (show (0 : Int) < _; first | assumption | decide | omega) | exact Or.inr ⟨by decide, by decide⟩ | exact Or.inl ⟨by decide, by decide⟩ | exact Or.inl ⟨by omega, by omega⟩ | exact Or.inr ⟨by omega, by omega⟩ | exact ⟨by decide, by decide, by decide⟩ | exact ⟨by decide, by decide⟩ | exact ⟨by omega, by omega⟩)
local macro_rules | `(tactic| walk_at "rs r1") => `(tactic| with_reducible (first | refine w_var rfl ?_ | refine w_c ?_ | refine w_op ?_ | refine w_un ?_ | refine w_test ?_ | refine w_B ?_ | refine w_bool ?_ | refine w_not ?_ | refine w_cb ?_ | refine w_nil ?_ | refine w_cons ?_ | refine w_asg ?_ | refine w_name ?_ | refine w_seq ?_ | refine w_ret ?_ | refine w_drop ?_ | refine w_next ?_ | refine w_ifS ?_ | refine w_I0 ?_ | refine w_eqI ?_ | refine w_neI ?_ | refine w_int ?_ | refine w_abs ?_ | refine w_sl ?_ | refine w_part ?_ | refine w_intO ?_ | refine w_nopart ?_ | refine w_gsub ?_ | refine w_augS ?_ | refine w_ip ?_ | refine w_lst ?_ | refine w_tup ?_ | refine w_if ?_ | refine w_and ?_ | refine w_or ?_ | refine w_tfld ?_ | refine w_forL ?_ | refine w_forT ?_ | refine w_forR1 ?_ | refine w_forR2 ?_ | refine w_forE ?_ | refine w_lcL ?_ | refine w_lcR1 ?_ | refine w_bm ?_ | refine w_call ?_ | refine w_meth ?_ | refine w_nget ?_ | refine w_nin ?_ | refine w_nput ?_ | refine w_eqS ?_ | refine w_neS ?_))
local macro_rules | `(tactic| walk_at "rs r2") => `(tactic| first | (walk_at "rs r1") | ((with_reducible refine' w_ixL ?h1 ?h2 ?h3); (case h1 => walk_at "rs sq"); (case h2 => first | rfl | exact atI_nat (j := 0) rfl | exact atI_nat (j := 1) rfl | exact atI_nat (j := 2) rfl)) | ((with_reducible refine' w_ixT ?h1 ?h2 ?h3); (case h1 => walk_at "rs sq"); (case h2 => first | rfl | exact atI_nat (j := 0) rfl | exact atI_nat (j := 1) rfl | exact atI_nat (j := 2) rfl)) | ((with_reducible refine' w_cutL ?h1 ?_); (case h1 => walk_at "rs sq"); intro q hq) | ((with_reducible refine' w_cat ?h1 ?h2 ?h3 ?_); (case h1 => walk_at "rs hp"); (case h2 => walk_at "rs hp"); (case h3 => walk_at "rs sz"); intro q hq) | ((with_reducible refine' w_small ?h1 ?_); (case h1 => exact Nat.le_of_ble_eq_true rfl); intro q hq) | ((with_reducible refine' w_setL ?h1 ?h2 ?_); (case h1 => walk_at "rs hp"); (case h2 => rfl)) | ((with_reducible refine' w_getL ?h0 ?h1 ?h2 ?_); (case h0 => rfl); (case h1 => walk_at "rs sq"); (case h2 => rfl)) | ((with_reducible refine' w_lenL ?h1 ?_); (case h1 => walk_at "rs sq")) | ((with_reducible refine' w_lenT ?h1 ?_); (case h1 => walk_at "rs sq")) | ((with_reducible refine' w_fld ?h1 ?h2 ?h3 ?h4 ?_); (case h1 => assumption); (case h2 => assumption); (case h3 => walk_at "rs hp"); (case h4 => assumption)) | ((with_reducible refine' w_methAt ?h1 ?h2 ?_); (case h1 => walk_at "rs hp"); (case h2 => assumption)) | ((with_reducible refine' w_tyL ?h1 ?_); (case h1 => walk_at "rs sq")) | ((with_reducible refine' w_append ?h1 ?h2 ?_); (case h1 => walk_at "rs hp"); (case h2 => assumption)) | ((with_reducible refine' w_I ?h1 ?_); (case h1 => walk_at "rs ar")))
local macro_rules | `(tactic| walk_at "rs rd") => `(tactic| repeat (walk_at "rs r2"))
abbrev sHeard : Stmt := top 14
/-- what stood stands, but for some objects and the tables of code objects -/
def FmT (S : List Addr) (H H' : Hp) : Prop := ∀ a o, H a = some o → (∀ ps, o ≠ .tbl ps) → a ∉ S → H' a = some o
section
variable {S T : List Addr} {H H' H1 : Hp} {a p : Addr} {o u : HO} {K : PySem.W.Frag} {xs : List V}
theorem FmT.of (f : Fm S H H') : FmT S H H' := fun a o e _ n => f a o e n
theorem FmT.ext (f : ExtN H H') : FmT S H H' := fun a o e t _ => f a o e t
theorem FmT.refl (S : List Addr) (H : Hp) : FmT S H H := fun _ _ h _ _ => h
theorem FmT.trans (a : FmT S H H1) (b : FmT S H1 H') : FmT S H H' := fun x o h t n => b x o (a x o h t n) t n
theorem FmT.wide (a : FmT S H H') (h : ∀ x ∈ S, x ∈ T) : FmT T H H' := fun x o e t n => a x o e t fun z => n (h x z)
theorem FmT.nil (a : FmT [] H H') : FmT T H H' := a.wide fun _ h => (List.not_mem_nil h).elim
theorem FmT.tup (f : FmT S H H') (h : H a = some (.tup xs)) (n : a ∉ S) : H' a = some (.tup xs) := f _ _ h (fun _ z => nomatch z) n
theorem FmT.lst (f : FmT S H H') (h : H a = some (.lst xs)) (n : a ∉ S) : H' a = some (.lst xs) := f _ _ h (fun _ z => nomatch z) n
theorem FmT.rd (f : FmT S H H') (h : Rd H a u) (hu : ∀ ps, u ≠ .tbl ps) (n : a ∉ S) : Rd H' a u := by
  rcases h with h | ⟨o, h⟩
  · exact .inl (f _ _ h hu n)
  · exact .inr ⟨o, f _ _ h (fun _ z => nomatch z) n⟩
theorem FmT.seqL (f : FmT S H H') (h : SqL K H a xs) (n : a ∉ S) : SqL K H' a xs := by
  rcases h with h | h
  · exact .inl (f.rd h (fun _ z => nomatch z) n)
  · exact .inr h
theorem FmT.none (f : FmT S H H') (h : H' a = Option.none) (n : a ∉ S) (ht : ∀ ps, H a ≠ some (.tbl ps)) : H a = Option.none := by
  cases q : H a with
  | none => rfl
  | some o => rw [f _ _ q (fun ps z => ht ps (by rw [q, z])) n] at h; cases h
end
theorem Bag.frameT {S : List Addr} {H H' : Hp} {b c : Addr} (h : Bag H b c) (f : FmT S H H') (hb : b ∉ S) (hc : c ∉ S) : Bag H' b c := by
  obtain ⟨cur, seed, ix, ns, h1, p1, p2, h2, p3⟩ := h
  exact ⟨cur, seed, ix, ns, f.lst h1 hb, p1, p2, f.lst h2 hc, p3⟩
theorem ndo_tbl {P : Program} {w : World} {a : Addr} {es : List (NestedKey × Addr × V)} {ps : Array Value} : NdO P w a es ≠ .tbl ps := fun z => by
  have z' : HO.ext _ = HO.tbl ps := z
  cases z'
theorem ND.frameT {P : Program} {w : World} {S : List Addr} {H H' : Hp} {a : Addr} {kvs : List (NestedKey × V)} (d : ND P w H a kvs) (f : FmT S H H') (ha : a ∉ S) (ht : ∀ b xs, H b = some (.tup xs) → H' b = some (.tup xs)) : ND P w H' a kvs := by
  obtain ⟨es, h1, h2, h3⟩ := d
  exact ⟨es, f _ _ h1 (fun ps z => ndo_tbl z) ha, fun e he => ⟨NK.mono ht _ _ (h2 e he).1, (h2 e he).2⟩, h3⟩
theorem GraphAt.frameT {P : Program} {w : World} {C : Addr} {S : List Addr} {H H' : Hp} {g l d : Addr} {L : List NestedKey} (x : GraphAt P w C H g l d L) (f : FmT S H H') (hg : g ∉ S) (hl : l ∉ S) (hd : d ∉ S) (ht : ∀ b xs, H b = some (.tup xs) → b ∉ S) : GraphAt P w C H' g l d L := by
  obtain ⟨dx, vs, h1, h2, h3, h4, h5, h6, h7⟩ := x
  have tp : ∀ b xs, H b = some (.tup xs) → H' b = some (.tup xs) := fun b xs e => f.tup e (ht b xs e)
  exact ⟨dx, vs, f _ _ h1 (fun _ z => nomatch z) hg, f.lst h2 hl, NKs.mono tp _ _ h3, h4.frameT f hd tp, h5, h6, h7⟩
theorem GraphAt.sameT {P : Program} {w : World} {C : Addr} {H H' : Hp} {g l d : Addr} {L : List NestedKey} (x : GraphAt P w C H g l d L) (f : FmT [] H H') : GraphAt P w C H' g l d L := x.frameT f List.not_mem_nil List.not_mem_nil List.not_mem_nil fun _ _ _ => List.not_mem_nil
/-- a dict's object is no code object -/
theorem ndo_code {P : Program} {w : World} {a : Addr} {q : Str} {es : List (NestedKey × Addr × V)} : NdO P w a es ≠ CodeO a q := fun z => by
  have z' : ndPhi P w a es = fun h => ∃ (oc : Obj) (vs : Array Value) (t : Tok), h.get? a = some oc ∧ oc.data = .fields vs ∧ vs[1]? = some (.str q t) := HO.ext.inj z
  let ob : Obj := { cls := .none, data := .fields #[.none, .str q 0] }
  let h : Heap := { objs := Array.replicate (a + 1) ob }
  have e : h.get? a = some ob := by
    show (match (Array.replicate (a + 1) ob)[a]? with | some ⟨_, _, .freed, _⟩ => none | o => o) = some ob
    have : (Array.replicate (a + 1) ob)[a]? = some ob := by rw [Array.getElem?_replicate, if_pos (Nat.lt_succ_self a)]
    rw [this]
  have y : ndPhi P w a es h := by
    rw [z']
    exact ⟨ob, _, 0, e, rfl, rfl⟩
  obtain ⟨_, _, xs, _, o, des, ep, q1, _, q3, _⟩ := y
  rw [e] at q1
  cases q1
  cases q3
/-- what changes is no table and no code object -/
def Plain (H : Hp) (S : List Addr) : Prop := ∀ a ∈ S, (∀ ps, H a ≠ some (.tbl ps)) ∧ ∀ q, H a ≠ some (CodeO a q)
theorem plain_lst {H : Hp} {a : Addr} {xs : List V} (h : H a = some (.lst xs)) : (∀ ps, H a ≠ some (.tbl ps)) ∧ ∀ q, H a ≠ some (CodeO a q) :=
  ⟨fun ps z => (by rw [h] at z; cases z), fun q z => by
    rw [h] at z
    have z' : HO.lst xs = HO.ext _ := Option.some.inj z
    cases z'⟩
theorem plain_ins {H : Hp} {a C dx : Addr} {fs : List (Str × V)} (h : H a = some (.ins C dx fs)) : (∀ ps, H a ≠ some (.tbl ps)) ∧ ∀ q, H a ≠ some (CodeO a q) :=
  ⟨fun ps z => (by rw [h] at z; cases z), fun q z => by
    rw [h] at z
    have z' : HO.ins C dx fs = HO.ext _ := Option.some.inj z
    cases z'⟩
theorem plain_nd {P : Program} {w : World} {H : Hp} {a : Addr} {es : List (NestedKey × Addr × V)} (h : H a = some (NdO P w a es)) : (∀ ps, H a ≠ some (.tbl ps)) ∧ ∀ q, H a ≠ some (CodeO a q) :=
  ⟨fun ps z => ndo_tbl (Option.some.inj (h.symm.trans z)), fun q z => ndo_code (Option.some.inj (h.symm.trans z))⟩
theorem tabs_fm {T : List (Addr × Str)} {S : List Addr} {H H' : Hp} (t : Tabs T H) (f : Fm S H H') (hS : Plain H S) : Tabs T H' := fun p hp => by
  obtain ⟨ps, h1, h2, h3⟩ := t p hp
  refine ⟨ps, f _ _ h1 fun z => (hS _ z).1 ps h1, h2, fun pos cv hc => ?_⟩
  obtain ⟨c, e1, e2⟩ := h3 pos cv hc
  exact ⟨c, e1, f _ _ e2 fun z => (hS _ z).2 _ e2⟩
theorem tabs_fm0 {T : List (Addr × Str)} {H H' : Hp} (t : Tabs T H) (f : Fm [] H H') : Tabs T H' := tabs_fm t f fun _ h => (List.not_mem_nil h).elim
/-- told: try: return ('told', a()) / except TooLarge as error: .. / except Nothing: .. -/
def TTheard (K : PySem.W.Frag) (CT CN : Addr) : (XK → Hp → VK → Prop) → Hp → VK → Prop := fun tl H Q =>
  tl (fun cls d H' => (cls = .ref CT ∧ ∃ dd v u, d = some dd ∧ H' dd = some (.xd (tlD v u)) ∧ ∀ p, H' p = none → Q (.ref p) (upd H' p (.tup [.str "too large", v, u]))) ∨ (cls = .ref CN ∧ ∀ p, H' p = none → Q (.ref p) (upd H' p (.tup [.str "nothing"])))) H
    (fun v H' => [V.str "told", v].length ≤ sizeLine ∧ ∀ p, H' p = none → Q (.ref p) (upd H' p (.tup [.str "told", v])))
structure TxtH (K : PySem.W.Frag) (mg : Str → Option Value) (CT CN : Addr) : Prop where
  gT : mg "TooLarge" = some (.ref CT)
  gN : mg "Nothing" = some (.ref CN)
  xT : XfC K CT
  noW : PySem.W.findIn K (.ref CT) "what" = some none
  noL : PySem.W.findIn K (.ref CT) "limit" = some none
  tt : PySem.W.exmOne K (.ref CT) (.ref CT) = some true
  nt : PySem.W.exmOne K (.ref CN) (.ref CT) = some false
  nn : PySem.W.exmOne K (.ref CN) (.ref CN) = some true
theorem takes_len {X : Cx} {W : WX} (tk : Takes X W) : Takes X (fun cls d σ H => σ.length = X.N.length → W cls d σ H) := fun u s' ⟨a, B, sI, pins, σ, H, cls, d, e, I, nb, up, sky, na, os, ag, w⟩ =>
  tk u s' ⟨a, B, sI, pins, σ, H, cls, d, e, I, nb, up, sky, na, os, ag, w I.len⟩
theorem scHeard : FnScope ["act", "error"] ["act"] (defScope sHeard) := ⟨rfl, rfl, rfl, by decide +kernel, rfl, by decide +kernel, by decide +kernel⟩
theorem heard_gives {X : Cx} {g CT CN : Addr} {cdg : Value} {q : Str} (T : TxtH X.K X.mg CT CN) : GivesTo X ["act", "error"] "_law_heard" (defScope sHeard) g cdg (defBody sHeard) "act" q (TTheard X.K CT CN) := by
  intro f c' s H Q tl act hc h
  have nd := scHeard.nd
  refine ⟨_, pss_one (ps_try_cls (X := (cxOf C8.CX0 X.prog X.w X.K X.mg X.base ["act", "error"] "_law_heard" (defScope sHeard) g cdg X.A X.stack s H C8.E0).nox) (Wout := fun _ _ _ _ => False)
      (tb := fun W D σ H => ∃ Ech : XK, (∀ cls d σ' H', Ech cls d H' → σ'.length = 2 → W cls d σ' H') ∧ σ[0]? = some (some (.ref f)) ∧ H c' = some (CodeO c' q) ∧ tl Ech H fun v H' => [V.str "told", v].length ≤ sizeLine ∧ ∀ p, H' p = none → D.rt (.ref p) (upd H' p (.tup [.str "told", v])))
      rfl rfl nd LamX.takes0 (fun W pn xe tk _ => ?_)
      (.named (i := 1) ⟨by rfl, by decide, .inl T.gT⟩ rfl rfl (fun a oe cls d pn hz hf => pss_one (ps_ret (pe_tup (pa_cons pe_str (pa_cons (pe_xf T.xT T.noW hz hf (pv 1)) (pa_cons (pe_xf T.xT T.noL hz hf (pv 1)) pa_nil))))))
      (.plain ⟨by rfl, by decide, .inl T.gN⟩ (fun a oe cls d pn hz hf => pss_one (ps_ret (pe_tup (pa_cons pe_str pa_nil)))) .nil))), ?_⟩
  · refine ⟨fun pins s' σ H' D I h' => ?_⟩
    obtain ⟨Ech, hW, h1, h2, h3⟩ := h'
    have hp := fun p1 p2 => act (fun cls d σ H => σ.length = 2 → W cls d σ H) pn xe Ech p1 p2 (takes_len tk) hW
    exact (pss_one (ps_ret (pe_tup (pa_cons pe_str (pa_cons (hp _ _) pa_nil))))).run pins s' σ H' D I ⟨h1, h2, h3⟩
  · refine ⟨_, fun cls d σ' H' hE hl => ?_, rfl, hc, h⟩
    match σ', hl with
    | [x0, x1], _ =>
      rcases hE with ⟨rfl, dd, v, u, rfl, hd, k⟩ | ⟨rfl, k⟩
      · refine ⟨true, T.tt, fun _ a ha => ?_, (fun z => (by cases z))⟩
        have l1 : (tlD v u).lookup ("what" : Str) = some v := by
          unfold tlD
          simp [List.lookup, show (("what" : Str) == "limit") = false by decide +kernel]
        have l2 : (tlD v u).lookup ("limit" : Str) = some u := by
          unfold tlD
          simp [List.lookup]
        dsimp only [endAs, slotAs]
        refine w_ret (w_tup (w_cons (w_c (w_cons ?_))))
        refine ⟨.ref a, rfl, rfl, rfl, dd, _, v, rfl, hd, l1, w_cons ⟨.ref a, rfl, rfl, rfl, dd, _, u, rfl, hd, l2, w_nil (w_small (Nat.le_of_ble_eq_true rfl) k)⟩⟩
      · refine ⟨false, T.nt, (fun z => (by cases z)), fun _ => ⟨true, T.nn, fun _ a ha => ?_, (fun z => (by cases z))⟩⟩
        dsimp only [endAs, slotAs]
        exact w_ret (w_tup (w_cons (w_c (w_nil (w_small (Nat.le_of_ble_eq_true rfl) k)))))
end Rs

set_option Elab.async false
set_option linter.all false
set_option maxRecDepth 100000
set_option maxHeartbeats 4000000
/-! a def whose code object is known; what is heard of a lambda -/
namespace Rs
open PySem L2 PySem.Spec PyProof.Rows LamX
local macro_rules | `(tactic| walk_at "rs ne") => `(tactic| first | assumption | (apply Ne.symm; assumption) | (apply ne_n1; assumption; walk_at "rs hp") | (apply ne_n2; assumption; walk_at "rs hp"))
local macro_rules | `(tactic| walk_at "rs hp") => `(tactic| first | assumption | exact upd_same | (apply hp_ne; (walk_at "rs ne"); (walk_at "rs hp")))
local macro_rules | `(tactic| walk_at "rs sq") => `(tactic| first | assumption | (apply SqL.of; walk_at "rs hp") | (apply SqT.of; walk_at "rs hp"))
local macro_rules | `(tactic| walk_at "rs sz") => `(tactic| first | decide | (rw [sizeLine_eq]; simp; done) | (rw [sizeLine_eq]; simp; omega) | (rw [sizeLine_eq]; omega))
local macro_rules | `(tactic| walk_at "rs ar") => `(tactic| first | assumption | (show (0 : Int) < _; first | assumption | decide | omega) | exact Or.inr ⟨by decide, by decide⟩ | exact Or.inl ⟨by decide, by decide⟩ | exact Or.inl ⟨by omega, by omega⟩ | exact Or.inr ⟨by omega, by omega⟩ | exact ⟨by decide, by decide, by decide⟩ | exact ⟨by decide, by decide⟩ | exact ⟨by omega, by omega⟩)
local macro_rules | `(tactic| walk_at "rs r1") => `(tactic| with_reducible (first | refine w_var rfl ?_ | refine w_c ?_ | refine w_op ?_ | refine w_un ?_ | refine w_test ?_ | refine w_B ?_ | refine w_bool ?_ | refine w_not ?_ | refine w_cb ?_ | refine w_nil ?_ | refine w_cons ?_ | refine w_asg ?_ | refine w_name ?_ | refine w_seq ?_ | refine w_ret ?_ | refine w_drop ?_ | refine w_next ?_ | refine w_ifS ?_ | refine w_I0 ?_ | refine w_eqI ?_ | refine w_neI ?_ | refine w_int ?_ | refine w_abs ?_ | refine w_sl ?_ | refine w_part ?_ | refine w_intO ?_ | refine w_nopart ?_ | refine w_gsub ?_ | refine w_augS ?_ | refine w_ip ?_ | refine w_lst ?_ | refine w_tup ?_ | refine w_if ?_ | refine w_and ?_ | refine w_or ?_ | refine w_tfld ?_ | refine w_forL ?_ | refine w_forT ?_ | refine w_forR1 ?_ | refine w_forR2 ?_ | refine w_forE ?_ | refine w_lcL ?_ | refine w_lcR1 ?_ | refine w_bm ?_ | refine w_call ?_ | refine w_meth ?_ | refine w_nget ?_ | refine w_nin ?_ | refine w_nput ?_ | refine w_eqS ?_ | refine w_neS ?_))
local macro_rules | `(tactic| walk_at "rs r2") => `(tactic| first | (walk_at "rs r1") | ((with_reducible refine' w_ixL ?h1 ?h2 ?h3); (case h1 => walk_at "rs sq"); (case h2 => first | rfl | exact atI_nat (j := 0) rfl | exact atI_nat (j := 1) rfl | exact atI_nat (j := 2) rfl)) | ((with_reducible refine' w_ixT ?h1 ?h2 ?h3); (case h1 => walk_at "rs sq"); (case h2 => first | rfl | exact atI_nat (j := 0) rfl | exact atI_nat (j := 1) rfl | exact atI_nat (j := 2) rfl)) | ((with_reducible refine' w_cutL ?h1 ?_); (case h1 => walk_at "rs sq"); intro q hq) | ((with_reducible refine' w_cat ?h1 ?h2 ?h3 ?_); (case h1 => walk_at "rs hp"); (case h2 => walk_at "rs hp"); (case h3 => walk_at "rs sz"); intro q hq) | ((with_reducible refine' w_small ?h1 ?_); (case h1 => exact Nat.le_of_ble_eq_true rfl); intro q hq) | ((with_reducible refine' w_setL ?h1 ?h2 ?_); (case h1 => walk_at "rs hp"); (case h2 => rfl)) | ((with_reducible refine' w_getL ?h0 ?h1 ?h2 ?_); (case h0 => rfl); (case h1 => walk_at "rs sq"); (case h2 => rfl)) | ((with_reducible refine' w_lenL ?h1 ?_); (case h1 => walk_at "rs sq")) | ((with_reducible refine' w_lenT ?h1 ?_); (case h1 => walk_at "rs sq")) | ((with_reducible refine' w_fld ?h1 ?h2 ?h3 ?h4 ?_); (case h1 => assumption); (case h2 => assumption); (case h3 => walk_at "rs hp"); (case h4 => assumption)) | ((with_reducible refine' w_methAt ?h1 ?h2 ?_); (case h1 => walk_at "rs hp"); (case h2 => assumption)) | ((with_reducible refine' w_tyL ?h1 ?_); (case h1 => walk_at "rs sq")) | ((with_reducible refine' w_append ?h1 ?h2 ?_); (case h1 => walk_at "rs hp"); (case h2 => assumption)) | ((with_reducible refine' w_I ?h1 ?_); (case h1 => walk_at "rs ar")))
local macro_rules | `(tactic| walk_at "rs rd") => `(tactic| repeat (walk_at "rs r2"))
/-- a def whose code object stands at c -/
structure FunC (K : PySem.W.Frag) (x qual : Str) (st : Stmt) (f : Addr) (fd : FuncData) (c : Addr) : Prop where
  ex : ∃ (oc : Value) (od : Option Addr) (kV doc pm : Value) (an : Option Addr) (ct : Value) (osl : Array (Option Value)),
    fd = PySem.W.fnOf x qual (defArgs st) (defBody st) (defScope st) .none kV doc pm an (.ref c) ct ∧ K.lookup f = some ⟨oc, od, .func fd, osl⟩ ∧ PySem.W.codeIn K (.ref c) qual = true
section
variable {P : Program} {w : World} {K : PySem.W.Frag} {mg : Str → Option Value} {base : Heap}
theorem okGc {x qual : Str} {st : Stmt} {f c : Addr} {fd : FuncData} {N ps : List Str} {k : Nat} {sp : Sp} (F : FunC K x qual st f fd c) (S : FnScope N ps (defScope st)) (hlen : ∀ vs H Q E, sp vs H Q E → vs.length = ps.length)
    (body : ∀ (A : Around) (around : List Env) (s : Shared) (H : Hp) (vs : List V) (Q : VK) (E : XK), (A.deeper (envOfC qual (defScope st) s.heap.objs.size f (.ref c))).guards = some [] → Room k (A.deeper (envOfC qual (defScope st) s.heap.objs.size f (.ref c))) → sp vs H Q E →
      ∃ t, PSs (cxOf CX0 P w K mg base N qual (defScope st) f (.ref c) A around s H E).nox (defBody st) t ∧ t { nx := fun _ H' => Q .non H', rt := Q } (start N vs) H) : FnG P w K mg base CX0 (k + 1) f fd ps sp := by
  obtain ⟨oc, od, kV, doc, pm, an, ct, osl, rfl, lk, hcd⟩ := F.ex
  refine ⟨hlen, fun A around s H given us vs Q E hg hr e0 hb r hsp => ?_⟩
  refine LamX.run_ofS lk hcd S hr e0 hb r (hlen _ _ _ _ hsp) fun hr' => ?_
  obtain ⟨t, h, q⟩ := body A around s H vs Q E (by first | exact hg | (simpa [Around.deeper] using hg)) hr' hsp
  exact ⟨t, h.nox, q⟩
end
/-- _law_heard(lambda: body) -/
theorem pe_heard {X : Cx} {fH c Pt CT CN : Addr} {fdH : FuncData} {T : List (Addr × Str)} {k : Nat} {params : Arguments} {body : Expr} {scope : Scope} {t : XK → TE} {p lpos pos : Pos}
    (F : Fun X.K "_law_heard" "_law_heard" sHeard fH fdH) (b : Binds X.K fdH ["act"] []) (TH : TxtH X.K X.mg CT CN) (hm : X.mg "_law_heard" = some (.ref fH)) (TB : TabB X.base X.mg c Pt) (hr : Room (k + 2) X.A)
    (hcode : X.env.code = .ref c) (hmT : (Pt, X.env.qual ++ "<lambda>") ∈ T) (hu : ∀ p ∈ T, p.1 = Pt → p.2 = X.env.qual ++ "<lambda>") (hg : Gl X "_law_heard") (L : LamS X.env.scope scope) (hdef : defaultsOf params X.env = ([], []))
    (hbind : ∀ (q : Str) (cl : List (Str × Addr)) (pm cv ctv : Value), bindArgs (PySem.W.kla_fn "<lambda>" q params body scope cl pm cv ctv) ⟨[], []⟩ = pure [])
    (hbody : ∀ (A : Around) (outer : List Env) (s : Shared) (H : Hp) (E : XK) (f c' : Addr), Room k (A.deeper (lamEnv X scope s.heap.objs.size f c')) → PE (lamCx X A outer s H E scope f c') body (t E)) :
    PE X (.Call (.Name "_law_heard" p) [.Lambda params body scope lpos] [] pos) (tLam T (TTheard X.K CT CN) t) := by
  obtain ⟨oc, od, kV, doc, pm, an, cdv, ct, osl, rfl, lk, hcd⟩ := F.ex
  exact pe_lamcall hg hm F.kp lk hcd b scHeard rfl (Or.inl rfl) (heard_gives TH) TB hcode hmT hu hr L hdef hbind hbody
def aNo : NestedKey := .tup [.text "nothing"]
def aTold (b : NestedKey) : NestedKey := .tup [.text "told", b]
def aBig : NestedKey := .tup [.text "too large", .text "nodes", .num 3000]
/-- told in a later heap -/
def Ans (T : List (Addr × Str)) (H H' : Hp) (k : NestedKey) (v : V) : Prop := FmT [] H H' ∧ Tabs T H' ∧ NK H' k v
theorem Ans.new {T : List (Addr × Str)} {H H1 : Hp} {p : Addr} {ks : List NestedKey} {vs : List V} (f : FmT [] H H1) (t : Tabs T H1) (h : NKs H1 ks vs) (hp : H1 p = none) : Ans T H (upd H1 p (.tup vs)) (.tup ks) (.ref p) := by
  have g : Fm [] H1 (upd H1 p (.tup vs)) := Fm.new hp
  exact ⟨f.trans (FmT.of g), tabs_fm0 t g, .tup upd_same (NKs.mono (fun b xs e => g _ _ e List.not_mem_nil) _ _ h)⟩
theorem w_hd {K : PySem.W.Frag} {CT CN : Addr} {T : List (Addr × Str)} {t : XK → TE} {σ : L2.St} {H : Hp} {Q : VK} {Pa : NestedKey → Prop} (tabs : Tabs T H)
    (hk : ∀ H1, FmT [] H H1 → Tabs T H1 → ∀ (E : XK) (Q' : VK), (∀ H2, FmT [] H1 H2 → Tabs T H2 → Pa aNo → E (.ref CN) none H2) → (∀ H2 b v, FmT [] H1 H2 → Tabs T H2 → Pa (aTold b) → NK H2 b v → Q' v H2) →
      (∀ H2 dd, FmT [] H1 H2 → Tabs T H2 → Pa aBig → H2 dd = some (.xd (tlD (.str "nodes") (.int 3000))) → E (.ref CT) (some dd) H2) → t E σ H1 Q')
    (k : ∀ a v H', Pa a → Ans T H H' a v → Q v H') : tLam T (TTheard K CT CN) t σ H Q := by
  refine ⟨tabs, fun H1 e1 t1 => ?_⟩
  have f1 : FmT [] H H1 := FmT.ext e1
  refine hk H1 f1 t1 _ _ (fun H2 f2 t2 ha => ?_) (fun H2 b v f2 t2 ha hb => ?_) (fun H2 dd f2 t2 ha hd => ?_)
  · exact .inr ⟨rfl, fun p hp => k _ _ _ ha (Ans.new (f1.trans f2) t2 (.cons (.text _) .nil) hp)⟩
  · exact w_small (Nat.le_of_ble_eq_true rfl) fun p hp => k _ _ _ ha (Ans.new (f1.trans f2) t2 (.cons (.text _) (.cons hb .nil)) hp)
  · exact .inl ⟨rfl, dd, _, _, rfl, hd, fun p hp => k _ _ _ ha (Ans.new (f1.trans f2) t2 (.cons (.text _) (.cons (.text _) (.cons (.num _) .nil))) hp)⟩
end Rs

set_option Elab.async false
set_option linter.all false
set_option maxRecDepth 100000
set_option maxHeartbeats 4000000
/-! _law_are_told -/
namespace Rs
open PySem L2 PySem.Spec PyProof.Rows LamX
local macro_rules | `(tactic| walk_at "rs ne") => `(tactic| first | assumption | (apply Ne.symm; assumption) | (apply ne_n1; assumption; walk_at "rs hp") | (apply ne_n2; assumption; walk_at "rs hp"))
local macro_rules | `(tactic| walk_at "rs hp") => `(tactic| first | assumption | exact upd_same | (apply hp_ne; (walk_at "rs ne"); (walk_at "rs hp")))
local macro_rules | `(tactic| walk_at "rs sq") => `(tactic| first | assumption | (apply SqL.of; walk_at "rs hp") | (apply SqT.of; walk_at "rs hp"))
local macro_rules | `(tactic| walk_at "rs sz") => `(tactic| first | decide | (rw [sizeLine_eq]; simp; done) | (rw [sizeLine_eq]; simp; omega) | (rw [sizeLine_eq]; omega))
local macro_rules | `(tactic| walk_at "rs ar") => `(tactic| first | assumption | (show (0 : Int) < _; first | assumption | decide | omega) | exact Or.inr ⟨by decide, by decide⟩ | exact Or.inl ⟨by decide, by decide⟩ | exact Or.inl ⟨by omega, by omega⟩ | exact Or.inr ⟨by omega, by omega⟩ | exact ⟨by decide, by decide, by decide⟩ | exact ⟨by decide, by decide⟩ | exact ⟨by omega, by omega⟩)
local macro_rules | `(tactic| walk_at "rs r1") => `(tactic| with_reducible (first | refine w_var rfl ?_ | refine w_c ?_ | refine w_op ?_ | refine w_un ?_ | refine w_test ?_ | refine w_B ?_ | refine w_bool ?_ | refine w_not ?_ | refine w_cb ?_ | refine w_nil ?_ | refine w_cons ?_ | refine w_asg ?_ | refine w_name ?_ | refine w_seq ?_ | refine w_ret ?_ | refine w_drop ?_ | refine w_next ?_ | refine w_ifS ?_ | refine w_I0 ?_ | refine w_eqI ?_ | refine w_neI ?_ | refine w_int ?_ | refine w_abs ?_ | refine w_sl ?_ | refine w_part ?_ | refine w_intO ?_ | refine w_nopart ?_ | refine w_gsub ?_ | refine w_augS ?_ | refine w_ip ?_ | refine w_lst ?_ | refine w_tup ?_ | refine w_if ?_ | refine w_and ?_ | refine w_or ?_ | refine w_tfld ?_ | refine w_forL ?_ | refine w_forT ?_ | refine w_forR1 ?_ | refine w_forR2 ?_ | refine w_forE ?_ | refine w_lcL ?_ | refine w_lcR1 ?_ | refine w_bm ?_ | refine w_call ?_ | refine w_meth ?_ | refine w_nget ?_ | refine w_nin ?_ | refine w_nput ?_ | refine w_eqS ?_ | refine w_neS ?_))
local macro_rules | `(tactic| walk_at "rs r2") => `(tactic| first | (walk_at "rs r1") | ((with_reducible refine' w_ixL ?h1 ?h2 ?h3); (case h1 => walk_at "rs sq"); (case h2 => first | rfl | exact atI_nat (j := 0) rfl | exact atI_nat (j := 1) rfl | exact atI_nat (j := 2) rfl)) | ((with_reducible refine' w_ixT ?h1 ?h2 ?h3); (case h1 => walk_at "rs sq"); (case h2 => first | rfl | exact atI_nat (j := 0) rfl | exact atI_nat (j := 1) rfl | exact atI_nat (j := 2) rfl)) | ((with_reducible refine' w_cutL ?h1 ?_); (case h1 => walk_at "rs sq"); intro q hq) | ((with_reducible refine' w_cat ?h1 ?h2 ?h3 ?_); (case h1 => walk_at "rs hp"); (case h2 => walk_at "rs hp"); (case h3 => walk_at "rs sz"); intro q hq) | ((with_reducible refine' w_small ?h1 ?_); (case h1 => exact Nat.le_of_ble_eq_true rfl); intro q hq) | ((with_reducible refine' w_setL ?h1 ?h2 ?_); (case h1 => walk_at "rs hp"); (case h2 => rfl)) | ((with_reducible refine' w_getL ?h0 ?h1 ?h2 ?_); (case h0 => rfl); (case h1 => walk_at "rs sq"); (case h2 => rfl)) | ((with_reducible refine' w_lenL ?h1 ?_); (case h1 => walk_at "rs sq")) | ((with_reducible refine' w_lenT ?h1 ?_); (case h1 => walk_at "rs sq")) | ((with_reducible refine' w_fld ?h1 ?h2 ?h3 ?h4 ?_); (case h1 => assumption); (case h2 => assumption); (case h3 => walk_at "rs hp"); (case h4 => assumption)) | ((with_reducible refine' w_methAt ?h1 ?h2 ?_); (case h1 => walk_at "rs hp"); (case h2 => assumption)) | ((with_reducible refine' w_tyL ?h1 ?_); (case h1 => walk_at "rs sq")) | ((with_reducible refine' w_append ?h1 ?h2 ?_); (case h1 => walk_at "rs hp"); (case h2 => assumption)) | ((with_reducible refine' w_I ?h1 ?_); (case h1 => walk_at "rs ar")))
local macro_rules | `(tactic| walk_at "rs rd") => `(tactic| repeat (walk_at "rs r2"))
abbrev sTold : Stmt := top 17
abbrev qTold : Str := ("_law_are_told" : Str) ++ ".<locals>." ++ "<lambda>"
/-- told of the graph: its rows, one by one, and nothing beyond -/
def spTold (P : Program) (w : World) (C : Addr) (T : List (Addr × Str)) : Sp := fun vs H Q _ => ∃ (g rp l d : Addr) (L : List NestedKey) (rs : List V), vs = [.ref g, .ref rp] ∧ GraphAt P w C H g l d L ∧ H rp = some (.lst rs) ∧ NKs H L rs ∧ L.length ≤ 100 ∧ (∀ k ∈ L, ∃ m ≤ 100, IsRow m k) ∧ Tabs T H ∧
  ∀ H', FmT [] H H' → Tabs T H' → Q (.bl true) H'
theorem FmT.nk {H H' : Hp} {k : NestedKey} {v : V} (f : FmT [] H H') (h : NK H k v) : NK H' k v := NK.mono (fun _ _ e => f.tup e List.not_mem_nil) _ _ h
theorem FmT.nks {H H' : Hp} {k : List NestedKey} {v : List V} (f : FmT [] H H') (h : NKs H k v) : NKs H' k v := NKs.mono (fun _ _ e => f.tup e List.not_mem_nil) _ _ h
theorem FmT.new {H : Hp} {p : Addr} {o : HO} (h : H p = Option.none) : FmT [] H (upd H p o) := FmT.of (Fm.new h)
theorem tabs_new {T : List (Addr × Str)} {H : Hp} {p : Addr} {o : HO} (t : Tabs T H) (h : H p = none) : Tabs T (upd H p o) := tabs_fm0 t (Fm.new h)
theorem FmT.lst0 {H H' : Hp} {p : Addr} {xs : List V} (f : FmT [] H H') (h : H p = some (.lst xs)) : H' p = some (.lst xs) := f.lst h List.not_mem_nil
theorem tabs_lst {T : List (Addr × Str)} {H : Hp} {p : Addr} {xs : List V} {o : HO} (t : Tabs T H) (h : H p = some (.lst xs)) : Tabs T (upd H p o) := tabs_fm t (Fm.put List.mem_cons_self : Fm [p] H _) fun a ha => by
  rw [List.mem_singleton] at ha
  subst ha
  exact plain_lst h
theorem nk_put {H : Hp} {p : Addr} {xs : List V} {o : HO} {k : NestedKey} {v : V} (e : H p = some (.lst xs)) (h : NK H k v) : NK (upd H p o) k v := NK.mono (fun b ys eb => by
  rw [upd_ne (fun z => by rw [z, e] at eb; cases eb)]
  exact eb) _ _ h
/-- an object that came on the way changes -/
theorem FmT.own {H H1 H' : Hp} {p : Addr} {o : HO} (f : FmT [] H H1) (h : H1 p = Option.none) (g : FmT [] H1 H') : FmT [] H (upd H' p o) := fun a u e z n => by
  have e1 := f a u e z n
  rw [upd_ne (ne_of_none e1 h)]
  exact g a u e1 z n
section
variable {P : Program} {w : World} {K : PySem.W.Frag} {C CT CN g l d : Addr} {L : List NestedKey} {Tb : List (Addr × Str)} {H : Hp} {σ : L2.St} {n : Int} {Q : VK}
theorem w_hkey {m what : Str} (nM : (gf l d).lookup m = none) (tabs : Tabs Tb H) (G : GraphAt P w C H g l d L) (hL : ∀ k ∈ L, ∃ s b r, k = .tup (.text s :: b :: r)) (s0 : σ[0]? = some (some (.ref g))) (s2 : σ[2]? = some (some (.int n)))
    (k : ∀ a v H', ((∃ (i : Nat) (b : NestedKey) (r : List NestedKey), n = (i : Int) ∧ L[i]? = some (.tup (.text what :: b :: r)) ∧ a = aTold b) ∨ (∃ (i : Nat) (s : Str) (b : NestedKey) (r : List NestedKey), n = (i : Int) ∧ L[i]? = some (.tup (.text s :: b :: r)) ∧ s ≠ what ∧ a = aNo) ∨ ((n < 0 ∨ (L.length : Int) ≤ n) ∧ a = aNo)) →
      Ans Tb H H' a v → Q v H') : tLam Tb (TTheard K CT CN) (fun E => tMeth C m (spKey P w C CN what) [] E (tVar 0) (tCons (tVar 2) tNil)) σ H Q := by
  refine w_hd (Pa := fun a => (∃ (i : Nat) (b : NestedKey) (r : List NestedKey), n = (i : Int) ∧ L[i]? = some (.tup (.text what :: b :: r)) ∧ a = aTold b) ∨ (∃ (i : Nat) (s : Str) (b : NestedKey) (r : List NestedKey), n = (i : Int) ∧ L[i]? = some (.tup (.text s :: b :: r)) ∧ s ≠ what ∧ a = aNo) ∨ ((n < 0 ∨ (L.length : Int) ≤ n) ∧ a = aNo)) tabs (fun H1 f1 t1 E Q' q1 q2 q3 => ?_) k
  have G1 := G.sameT f1
  obtain ⟨dx, vs, h1, _⟩ := id G1
  refine w_meth (w_var s0 (w_methAt h1 nM (w_cons (w_var s2 (w_nil ?_)))))
  exact ⟨g, l, d, L, n, rfl, G1, hL, fun i b r v hn hi hb => q2 H1 b v (FmT.refl _ _) t1 (.inl ⟨i, b, r, hn, hi, rfl⟩) hb, fun i s b r hn hi hs => q1 H1 (FmT.refl _ _) t1 (.inr (.inl ⟨i, s, b, r, hn, hi, hs, rfl⟩)), fun h => q1 H1 (FmT.refl _ _) t1 (.inr (.inr ⟨h, rfl⟩))⟩
end
def rowB : NestedKey → Bool
  | .tup (.text s :: _) => decide (s = "letter")
  | _ => false
theorem goodL : ∀ kk ∈ keysK, Good (.list [.bool true, toPy (.tup []), toPy (aTold kk), toPy aNo]) := fun kk hk => by
  have h : (keysK.all fun kk => okD (.list [.bool true, toPy (.tup []), toPy (aTold kk), toPy aNo]) && decide ((PyData.list [.bool true, toPy (.tup []), toPy (aTold kk), toPy aNo]).depth ≤ 60) && decide (cnt (.list [.bool true, toPy (.tup []), toPy (aTold kk), toPy aNo]) ≤ 1000)) = true := by decide +kernel
  have q := List.all_eq_true.mp h kk hk
  rw [Bool.and_eq_true, Bool.and_eq_true] at q
  exact ⟨q.1.1, of_decide_eq_true q.1.2, of_decide_eq_true q.2⟩
/-- six times nothing, heard one by one -/
structure HS (T : List (Addr × Str)) (H0 H : Hp) (tl : Addr) (vs : List V) (k : Nat) : Prop where
  fr0 : ∃ Hm, FmT [] H0 Hm ∧ Hm tl = none ∧ FmT [] Hm H
  tabs : Tabs T H
  here : H tl = some (.lst vs)
  len : vs.length = k
  all : ∀ v ∈ vs, NK H aNo v
theorem HS.fr {T : List (Addr × Str)} {H0 H : Hp} {tl : Addr} {vs : List V} {k : Nat} (h : HS T H0 H tl vs k) : FmT [] H0 H := by
  obtain ⟨Hm, a, _, b⟩ := h.fr0
  exact a.trans b
theorem HS.step {T : List (Addr × Str)} {H0 H H' : Hp} {tl : Addr} {vs : List V} {k : Nat} {v : V} (h : HS T H0 H tl vs k) (A : Ans T H H' aNo v) : H' tl = some (.lst vs) ∧ HS T H0 (upd H' tl (.lst (vs ++ [v]))) tl (vs ++ [v]) (k + 1) := by
  obtain ⟨f, t, n⟩ := A
  obtain ⟨Hm, a, e, b⟩ := h.fr0
  have e' := f.lst0 h.here
  refine ⟨e', ⟨Hm, a, e, (FmT.refl [] Hm).own e (b.trans f)⟩, tabs_lst t e', upd_same, by simp [h.len], fun u hu => ?_⟩
  rcases List.mem_append.mp hu with hu | hu
  · exact nk_put e' (f.nk (h.all u hu))
  · rw [List.mem_singleton] at hu
    subst hu
    exact nk_put e' n
theorem dp_all {K : PySem.W.Frag} {H : Hp} : ∀ {vs : List V}, (∀ v ∈ vs, NK H aNo v) → DpAll K H vs (List.replicate vs.length (toPy aNo))
  | [], _ => .nil
  | v :: r, h => .cons (NK.dp _ _ (h v List.mem_cons_self)) (dp_all fun u hu => h u (List.mem_cons_of_mem _ hu))
theorem goodN : Good (.list (List.replicate 6 (toPy aNo))) := ⟨by decide +kernel, by decide +kernel, by decide +kernel⟩
theorem inside {L : List NestedKey} {n : Int} {j : Nat} {k : NestedKey} (h : n = (j : Int)) (e : L[j]? = some k) : 0 ≤ n ∧ n < (L.length : Int) := by
  have := (List.getElem?_eq_some_iff.mp e).1
  omega
theorem w_hno {P : Program} {w : World} {K : PySem.W.Frag} {C CT CN g l d : Addr} {L : List NestedKey} {Tb : List (Addr × Str)} {t : XK → TE} {H : Hp} {σ : L2.St} {Q : VK} (tabs : Tabs Tb H) (G : GraphAt P w C H g l d L)
    (hk : ∀ H1, GraphAt P w C H1 g l d L → Tabs Tb H1 → ∀ (E : XK) (Q' : VK), (∀ H2, FmT [] H1 H2 → Tabs Tb H2 → E (.ref CN) none H2) → t E σ H1 Q') (k : ∀ v H', Ans Tb H H' aNo v → Q v H') : tLam Tb (TTheard K CT CN) t σ H Q :=
  w_hd (Pa := fun a => a = aNo) tabs (fun H1 f1 t1 E Q' q1 _ _ => hk H1 (G.sameT f1) t1 E Q' fun H2 f2 t2 => q1 H2 f2 t2 rfl) fun a v H' e A => by
    subst e
    exact k v H' A
theorem okD_nums : ∀ (ns : List Int) (m : Nat), m ≤ 100 → (∀ n ∈ ns, 0 ≤ n ∧ n < (m : Int)) → okDs (toPys (ns.map .num)) = true
  | [], _, _, _ => rfl
  | n :: r, m, hm, h => by
    have h1 := h n List.mem_cons_self
    show (decide (n.natAbs < 10 ^ 12) && okDs (toPys (r.map .num))) = true
    rw [okD_nums r m hm fun q hq => h q (List.mem_cons_of_mem _ hq), decide_eq_true (by omega)]
    rfl
theorem goodO (o : Str) (ns : List Int) (m : Nat) (hm : m ≤ 100) (ho : o ∈ opsS) (hns : ns.length ≤ 3) (hnb : ∀ n ∈ ns, 0 ≤ n ∧ n < (m : Int)) : Good (.list [.bool false, toPy (.tup (ns.map .num)), toPy aNo, toPy (aTold (.text o))]) := by
  have hC : okD (.str o) = true := by
    have h : (opsS.all fun o => okD (.str o)) = true := by decide +kernel
    exact List.all_eq_true.mp h o ho
  have hA := okD_nums ns m hm hnb
  refine ⟨?_, ?_, ?_⟩
  · show (okD (.bool false) && (okDs (toPys (ns.map .num)) && (okD (toPy aNo) && ((okD (.str "told") && (okD (.str o) && true)) && true)))) = true
    rw [hA, hC]
    decide +kernel
  · match ns, hns with
    | [], _ => exact Nat.le_of_ble_eq_true rfl
    | [a], _ => exact Nat.le_of_ble_eq_true rfl
    | [a, b], _ => exact Nat.le_of_ble_eq_true rfl
    | [a, b, c], _ => exact Nat.le_of_ble_eq_true rfl
  · match ns, hns with
    | [], _ => exact Nat.le_of_ble_eq_true rfl
    | [a], _ => exact Nat.le_of_ble_eq_true rfl
    | [a, b], _ => exact Nat.le_of_ble_eq_true rfl
    | [a, b, c], _ => exact Nat.le_of_ble_eq_true rfl
section
variable {P : Program} {w : World} {K : PySem.W.Frag} {mg : Str → Option Value} {base : Heap} {C CT fT CN : Addr}
theorem scTold : FnScope ["graph", "rows", "at", "row", "is_letter", "told", "due", "heard"] ["graph", "rows"] (defScope sTold) := ⟨rfl, rfl, rfl, by decide +kernel, rfl, by decide +kernel, by decide +kernel⟩
theorem ok_told {f c Pt fH fA fIs fPa fKe fOp fNo fMa : Addr} {fd fdH fdA fdIs fdPa fdKe fdOp fdNo fdMa : FuncData} {Tb : List (Addr × Str)} (F : FunC K "_law_are_told" "_law_are_told" sTold f fd c) (T : TxtG P K mg C CT fT CN) (TH : TxtH K mg CT CN) (mEn : mg "enumerate" = none)
    (FH : Fun K "_law_heard" "_law_heard" sHeard fH fdH) (bH : Binds K fdH ["act"] []) (mHd : mg "_law_heard" = some (.ref fH)) (TB : TabB base mg c Pt) (hmT : (Pt, qTold) ∈ Tb) (hu : ∀ p ∈ Tb, p.1 = Pt → p.2 = qTold)
    (GA : FnG P w K mg base CX0 1 fA fdA ["found", "due"] (spAlike K)) (mA : mg "_law_alike" = some (.ref fA)) (kA : PySem.W.keepIn K (.ref fA) = true) (bA : Binds K fdA ["found", "due"] [])
    (GIs : FnOk P w K mg base (L2.CX P w) 3 fIs fdIs ["self", "n"] (spIsL P w C CN)) (bIs : Binds K fdIs ["self", "n"] []) (mIs : Meth K C "is_letter" fIs)
    (GPa : FnOk P w K mg base (L2.CX P w) 3 fPa fdPa ["self", "n"] (spParts P w C CN)) (bPa : Binds K fdPa ["self", "n"] []) (mPa : Meth K C "parts_of" fPa)
    (GKe : FnOk P w K mg base (L2.CX P w) 3 fKe fdKe ["self", "n"] (spKey P w C CN "letter")) (bKe : Binds K fdKe ["self", "n"] []) (mKe : Meth K C "key_of" fKe)
    (GOp : FnOk P w K mg base (L2.CX P w) 3 fOp fdOp ["self", "n"] (spKey P w C CN "op")) (bOp : Binds K fdOp ["self", "n"] []) (mOp : Meth K C "op_of" fOp)
    (GNo : FnOk P w K mg base (L2.CX P w) 4 fNo fdNo ["self", "op", "parts"] (spNode P w C CT CN)) (bNo : Binds K fdNo ["self", "op", "parts"] []) (mNo : Meth K C "node" fNo)
    (GMa : FnOk P w K mg base CX0 1 fMa fdMa ["self"] (spMany P w C)) (bMa : Binds K fdMa ["self"] []) (mMa : Meth K C "many" fMa) :
    FnG P w K mg base CX0 7 f fd ["graph", "rows"] (spTold P w C Tb) := by
  refine okGc F scTold (fun vs H Q E h => ?_) (fun A outer s H vs Q E hgd hr h => ?_)
  · obtain ⟨g, rp, l, d, L, rs, rfl, _⟩ := h
    rfl
  · obtain ⟨g, rp, l, d, L, rs, rfl, G, hrp, hL, hlen, hrow, tabs, k⟩ := h
    have nd := scTold.nd
    refine ⟨_, (Evl.pss_cut (ps_for PassesOwn.never rfl (pi_enum rfl mEn (pa_cons (pv 1) pa_nil)) (pg_tup rfl (pgs_cons (pg_name (i := 2) nd rfl (Or.inr rfl)) (pgs_cons (pg_name (i := 3) nd rfl (Or.inl rfl)) pgs_nil))) (pss_cons (ps_set (i := 4) nd rfl (Or.inl rfl) (pe_cmpR op_eq (pe_ix ix_tup (pv 3) pe_int (fun _ _ => rfl)) pe_str (nomark _))) (pss_cons (ps_set (i := 5) nd rfl (Or.inl rfl) (pe_lst (pa_cons (pe_meth (E := E0) (pv 0) T.cl mIs GIs (hr.mono (by decide)) bIs .nil (passes_call LamX.takes0 fun _ _ _ _ h => h) (pa_cons (pv 2) pa_nil)) (pa_cons (pe_meth (E := E0) (pv 0) T.cl mPa GPa (hr.mono (by decide)) bPa .nil (passes_call LamX.takes0 fun _ _ _ _ h => h) (pa_cons (pv 2) pa_nil)) (pa_cons (pe_heard (k := 4) FH bH TH mHd TB (hr.mono (by decide)) rfl hmT hu rfl (lamS_by (sc := defScope sTold) (by decide +kernel)) rfl (fun _ _ _ _ _ => rfl) (fun A outer s H E f c' hr' => (pe_meth (E := E) (pv 0) T.cl mKe GKe (hr'.mono (by decide)) bKe .nil (passes_call (takes_of rfl rfl rfl rfl) fun _ _ _ _ h => h) (pa_cons (pv 2) pa_nil)))) pa_nil))))) (pss_cons (ps_expr (pe_bm PySem.F.plainAttrs_list PySem.F.slot_list_append PySem.F.type_list_append mt_append (pv 5) (pa_cons (pe_heard (k := 4) FH bH TH mHd TB (hr.mono (by decide)) rfl hmT hu rfl (lamS_by (sc := defScope sTold) (by decide +kernel)) rfl (fun _ _ _ _ _ => rfl) (fun A outer s H E f c' hr' => (pe_meth (E := E) (pv 0) T.cl mOp GOp (hr'.mono (by decide)) bOp .nil (passes_call (takes_of rfl rfl rfl rfl) fun _ _ _ _ h => h) (pa_cons (pv 2) pa_nil)))) pa_nil))) (pss_cons (ps_set (i := 6) nd rfl (Or.inl rfl) (pe_lst (pa_cons (pv 4) (pa_cons (pe_ifExp (pt_val (pv 4)) (pe_tup pa_nil) (pe_ix ix_tup (pv 3) pe_int (fun _ _ => rfl))) (pa_cons (pe_ifExp (pt_val (pv 4)) (pe_tup (pa_cons pe_str (pa_cons (pe_ix ix_tup (pv 3) pe_int (fun _ _ => rfl)) pa_nil))) (pe_tup (pa_cons pe_str pa_nil))) pa_nil))))) (pss_one (ps_if (pt_not (pt_val (pe_callG (E := E0) GA hgd (hr.mono (by decide)) rfl mA kA bA pass0 (pa_cons (pv 5) (pa_cons (pe_op op_cat (pv 6) (pe_lst (pa_cons (pe_ifExp (pt_val (pv 4)) (pe_tup (pa_cons pe_str pa_nil)) (pe_tup (pa_cons pe_str (pa_cons (pe_ix ix_tup (pv 3) pe_int (fun _ _ => rfl)) pa_nil)))) pa_nil))) pa_nil))))) (pss_one (ps_ret pe_bl)) pss_nil))))))) (Evl.pss_cut (ps_for PassesOwn.never rfl (pi_tup (pe_tup (pa_cons (pe_un un_neg pe_int) (pa_cons (pe_callB c_len (by rfl) T.len PySem.boot_len (pa_cons (pv 1) pa_nil)) (pa_cons (pe_op op_add (pe_callB c_len (by rfl) T.len PySem.boot_len (pa_cons (pv 1) pa_nil)) pe_int) pa_nil))))) (pg_name (i := 2) nd rfl (Or.inr rfl)) (pss_cons (ps_set (i := 7) nd rfl (Or.inl rfl) (pe_lst (pa_cons (pe_heard (k := 4) FH bH TH mHd TB (hr.mono (by decide)) rfl hmT hu rfl (lamS_by (sc := defScope sTold) (by decide +kernel)) rfl (fun _ _ _ _ _ => rfl) (fun A outer s H E f c' hr' => (pe_meth (E := E) (pv 0) T.cl mIs GIs (hr'.mono (by decide)) bIs .nil (passes_call (takes_of rfl rfl rfl rfl) fun _ _ _ _ h => h) (pa_cons (pv 2) pa_nil)))) pa_nil))) (pss_cons (ps_expr (pe_bm PySem.F.plainAttrs_list PySem.F.slot_list_append PySem.F.type_list_append mt_append (pv 7) (pa_cons (pe_heard (k := 4) FH bH TH mHd TB (hr.mono (by decide)) rfl hmT hu rfl (lamS_by (sc := defScope sTold) (by decide +kernel)) rfl (fun _ _ _ _ _ => rfl) (fun A outer s H E f c' hr' => (pe_meth (E := E) (pv 0) T.cl mKe GKe (hr'.mono (by decide)) bKe .nil (passes_call (takes_of rfl rfl rfl rfl) fun _ _ _ _ h => h) (pa_cons (pv 2) pa_nil)))) pa_nil))) (pss_cons (ps_expr (pe_bm PySem.F.plainAttrs_list PySem.F.slot_list_append PySem.F.type_list_append mt_append (pv 7) (pa_cons (pe_heard (k := 4) FH bH TH mHd TB (hr.mono (by decide)) rfl hmT hu rfl (lamS_by (sc := defScope sTold) (by decide +kernel)) rfl (fun _ _ _ _ _ => rfl) (fun A outer s H E f c' hr' => (pe_meth (E := E) (pv 0) T.cl mOp GOp (hr'.mono (by decide)) bOp .nil (passes_call (takes_of rfl rfl rfl rfl) fun _ _ _ _ h => h) (pa_cons (pv 2) pa_nil)))) pa_nil))) (pss_cons (ps_expr (pe_bm PySem.F.plainAttrs_list PySem.F.slot_list_append PySem.F.type_list_append mt_append (pv 7) (pa_cons (pe_heard (k := 4) FH bH TH mHd TB (hr.mono (by decide)) rfl hmT hu rfl (lamS_by (sc := defScope sTold) (by decide +kernel)) rfl (fun _ _ _ _ _ => rfl) (fun A outer s H E f c' hr' => (pe_meth (E := E) (pv 0) T.cl mPa GPa (hr'.mono (by decide)) bPa .nil (passes_call (takes_of rfl rfl rfl rfl) fun _ _ _ _ h => h) (pa_cons (pv 2) pa_nil)))) pa_nil))) (pss_cons (ps_expr (pe_bm PySem.F.plainAttrs_list PySem.F.slot_list_append PySem.F.type_list_append mt_append (pv 7) (pa_cons (pe_heard (k := 4) FH bH TH mHd TB (hr.mono (by decide)) rfl hmT hu rfl (lamS_by (sc := defScope sTold) (by decide +kernel)) rfl (fun _ _ _ _ _ => rfl) (fun A outer s H E f c' hr' => (pe_meth (E := E) (pv 0) T.cl mNo GNo (hr'.mono (by decide)) bNo .nil (passes_call (takes_of rfl rfl rfl rfl) fun _ _ _ _ h => h) (pa_cons pe_str (pa_cons (pe_tup (pa_cons (pv 2) pa_nil)) pa_nil))))) pa_nil))) (pss_cons (ps_expr (pe_bm PySem.F.plainAttrs_list PySem.F.slot_list_append PySem.F.type_list_append mt_append (pv 7) (pa_cons (pe_heard (k := 4) FH bH TH mHd TB (hr.mono (by decide)) rfl hmT hu rfl (lamS_by (sc := defScope sTold) (by decide +kernel)) rfl (fun _ _ _ _ _ => rfl) (fun A outer s H E f c' hr' => (pe_meth (E := E) (pv 0) T.cl mNo GNo (hr'.mono (by decide)) bNo .nil (passes_call (takes_of rfl rfl rfl rfl) fun _ _ _ _ h => h) (pa_cons pe_str (pa_cons (pe_tup (pa_cons pe_int (pa_cons (pv 2) pa_nil))) pa_nil))))) pa_nil))) (pss_one (ps_if (pt_cmpR (op_neD hr.units) (pv 7) (pe_op op_rep (pe_lst (pa_cons (pe_tup (pa_cons pe_str pa_nil)) pa_nil)) pe_int) (nomark _)) (pss_one (ps_ret pe_bl)) pss_nil))))))))) (pss_one (ps_ret (pe_callG (E := E0) GA hgd (hr.mono (by decide)) rfl mA kA bA pass0 (pa_cons (pe_meth0 (pv 0) T.cl mMa GMa (hr.mono (by decide)) bMa .nil pass0) (pa_cons (pe_callB c_len (by rfl) T.len PySem.boot_len (pa_cons (pv 1) pa_nil)) pa_nil))))))), ?_⟩
    walk_at "rs rd"
    have hLs : ∀ k ∈ L, ∃ s b r, k = .tup (.text s :: b :: r) := fun k hk => by
      obtain ⟨m, _, ⟨kk, _, rfl⟩ | ⟨o, ns, _, _, _, rfl⟩⟩ := hrow k hk
      · exact ⟨_, _, _, rfl⟩
      · exact ⟨_, _, _, rfl⟩
    have hLl : ∀ k ∈ L, ∃ s r, k = .tup (.text s :: r) := fun k hk => by
      obtain ⟨s, b, r, e⟩ := hLs k hk
      exact ⟨s, _, e⟩
    have hLp : ∀ k ∈ L, (∃ b, k = .tup [.text "letter", b]) ∨ ∃ o ps, k = .tup [.text "op", .text o, .tup ps] := fun k hk => by
      obtain ⟨m, _, ⟨kk, _, rfl⟩ | ⟨o, ns, _, _, _, rfl⟩⟩ := hrow k hk
      · exact .inl ⟨_, rfl⟩
      · exact .inr ⟨_, _, rfl⟩
    have nIs : (gf l d).lookup ("is_letter" : Str) = none := gf_no _ _ (by decide +kernel) (by decide +kernel)
    have nPa : (gf l d).lookup ("parts_of" : Str) = none := gf_no _ _ (by decide +kernel) (by decide +kernel)
    have nKe : (gf l d).lookup ("key_of" : Str) = none := gf_no _ _ (by decide +kernel) (by decide +kernel)
    have nOp : (gf l d).lookup ("op_of" : Str) = none := gf_no _ _ (by decide +kernel) (by decide +kernel)
    have nNo : (gf l d).lookup ("node" : Str) = none := gf_no _ _ (by decide +kernel) (by decide +kernel)
    have nMa : (gf l d).lookup ("many" : Str) = none := gf_no _ _ (by decide +kernel) (by decide +kernel)
    have lt3 : 3 < sizeLine := by rw [sizeLine_eq]; decide
    refine w_cut (M := fun σ H' => ∃ o2 o3 o4 o5 o6, σ = [some (.ref g), some (.ref rp), o2, o3, o4, o5, o6, none] ∧ FmT [] H H' ∧ Tabs Tb H') ?_ ?_
    · walk_at "rs rd"
      refine ⟨rp, rs, rfl, SqL.of hrp, for_it (walk_enum (xs := rs)) (fun i σ H' => ∃ o2 o3 o4 o5 o6, σ = [some (.ref g), some (.ref rp), o2, o3, o4, o5, o6, none] ∧ FmT [] H H' ∧ Tabs Tb H') ⟨_, _, _, _, _, rfl, FmT.refl _ _, tabs⟩ (fun i σ H' _ ⟨_, _, _, _, _, _, f, _⟩ => SqL.of (f.lst0 hrp)) ?_ ?_⟩
      · rintro i x σ H1 H2 hi ⟨o2, o3, o4, o5, o6, rfl, f1, t1⟩ ⟨ta, x, v, rfl, hta, rfl, hx, hv⟩
        cases hx
        refine ⟨ta, _, rfl, SqT.of upd_same, rfl, _, _, rfl, w_name ⟨_, _, rfl, w_name ⟨rfl, ?_⟩⟩⟩
        have hll : L.length = rs.length := hL.len
        have f2 : FmT [] H (upd H1 ta (.tup [.int (i : Int), v])) := f1.trans (FmT.new hta)
        have t2 : Tabs Tb (upd H1 ta (.tup [.int (i : Int), v])) := tabs_new t1 hta
        generalize upd H1 ta (.tup [.int (i : Int), v]) = H2 at f2 t2
        clear t1 f1 hta
        have G2 := G.sameT f2
        obtain ⟨key, hkey⟩ : ∃ key, L[i]? = some key := ⟨_, List.getElem?_eq_getElem (by omega)⟩
        obtain ⟨v', hv', nk⟩ := (f2.nks hL).get hkey
        have hvv : rs[i]? = some v := hv
        rw [hvv] at hv'
        obtain rfl : v = v' := Option.some.inj hv'
        obtain ⟨m, hm, hr0⟩ := hrow key (List.mem_of_getElem? hkey)
        have hin : ¬ ((i : Int) < 0 ∨ (L.length : Int) ≤ (i : Int)) := by omega
        have same : ∀ {j : Nat} {k' : NestedKey}, (i : Int) = (j : Int) → L[j]? = some k' → k' = key := fun {j k'} e1 e2 => by
          obtain rfl : i = j := by omega
          rw [hkey] at e2
          exact (Option.some.inj e2).symm
        obtain ⟨dx, vs, hg2, _⟩ := id G2
        rcases hr0 with ⟨kk, hkk, rfl⟩ | ⟨o, ns, ho, hns, hnb, rfl⟩
        · cases nk with
          | tup ea ra =>
            cases ra with
            | cons r1 r2 =>
              cases r1
              cases r2 with
              | cons r2 r3 =>
                cases r3
                walk_at "rs rd"
                refine ⟨g, l, d, L, i, rfl, G2, hLl, fun i' s r hn hk => ?_, fun z => absurd z hin⟩
                cases same hn hk
                walk_at "rs rd"
                refine ⟨g, l, d, L, i, rfl, G2, hLp, fun i' b hn hk p hp => ?_, fun i' o ps v hn hk => (by cases same hn hk), fun z => absurd z hin⟩
                cases same hn hk
                walk_at "rs rd"
                have g3 : FmT [] H2 _ := FmT.new (o := .tup []) hp
                have t3 := tabs_new (o := .tup []) t2 hp
                refine w_hkey nKe t3 (G2.sameT g3) hLs rfl rfl (fun a v H4 ha hA => ?_)
                rcases ha with ⟨i', b, r, hn, hk, rfl⟩ | ⟨i', s, b, r, hn, hk, hs, rfl⟩ | ⟨z, _⟩
                · cases same hn hk
                  obtain ⟨f4, t4, n4⟩ := hA
                  rw [show decide (("letter" : Str) = "letter") = true from decide_eq_true rfl]
                  walk_at "rs rd"
                  rename_i tl htl
                  have g4 := g3.trans f4
                  have g5 := g4.trans (FmT.new (o := .lst [.bl true, .ref p, v]) htl)
                  have t5 := tabs_new (o := .lst [.bl true, .ref p, v]) t4 htl
                  refine w_hkey nOp t5 (G2.sameT g5) hLs rfl rfl (fun a v6 H6 ha6 hA6 => ?_)
                  rcases ha6 with ⟨i', b, r, hn, hk, rfl⟩ | ⟨i', s, b, r, hn, hk, hs, rfl⟩ | ⟨z, _⟩
                  · exact absurd (same hn hk) (fun z => by cases z)
                  · obtain ⟨f6, t6, n6⟩ := hA6
                    have e6 := f6.lst0 upd_same
                    have g7 := g4.own (o := .lst ([.bl true, .ref p, v] ++ [v6])) htl ((FmT.new htl).trans f6)
                    have t7 := tabs_lst (o := .lst ([.bl true, .ref p, v] ++ [v6])) t6 e6
                    have ea7 := g7.tup ea List.not_mem_nil
                    have n47 : FmT [] _ (upd H6 tl (.lst ([.bl true, .ref p, v] ++ [v6]))) := (FmT.refl [] _).own htl ((FmT.new (o := .lst [.bl true, .ref p, v]) htl).trans f6)
                    have n6' := nk_put (o := .lst ([.bl true, .ref p, v] ++ [v6])) e6 n6
                    walk_at "rs rd"
                    rw [if_pos rfl]
                    walk_at "rs rd"
                    rw [if_pos rfl]
                    rename_i q1 hq1
                    walk_at "rs rd"
                    rw [if_pos rfl]
                    rename_i q2 hq2 q3 hq3
                    walk_at "rs rd"
                    rename_i q4 hq4 q5 hq5 q6 hq6
                    have mm := ((((((FmT.new (o := .tup []) hq1).trans (FmT.new (o := .tup [.str "told", _]) hq2)).trans (FmT.new (o := .lst [.bl true, .ref q1, .ref q2]) hq3)).trans (FmT.new (o := .tup [.str "nothing"]) hq4)).trans (FmT.new (o := .lst [.ref q4]) hq5)).trans (FmT.new (o := .lst ([.bl true, .ref q1, .ref q2] ++ [.ref q4])) hq6))
                    have tt := tabs_new (o := .lst ([.bl true, .ref q1, .ref q2] ++ [.ref q4])) (tabs_new (o := .lst [.ref q4]) (tabs_new (o := .tup [.str "nothing"]) (tabs_new (o := .lst [.bl true, .ref q1, .ref q2]) (tabs_new (o := .tup [.str "told", _]) (tabs_new (o := .tup []) t7 hq1) hq2) hq3) hq4) hq5) hq6
                    have gN := g7.trans mm
                    refine ⟨_, _, .list [.bool true, toPy (.tup []), toPy (aTold kk), toPy aNo], rfl,
                      .lst (SqL.of (by walk_at "rs hp")) (.cons (.bl _) (.cons (NK.dp (.tup []) _ (mm.nk (n47.nk (f4.nk (.tup upd_same .nil))))) (.cons (NK.dp _ _ (mm.nk (n47.nk n4))) (.cons (NK.dp _ _ (mm.nk n6')) .nil)))),
                      .lst (SqL.of upd_same) (.cons (.bl _) (.cons (NK.dp (.tup []) _ (.tup (by walk_at "rs hp") .nil)) (.cons (NK.dp (aTold kk) _ (.tup (by walk_at "rs hp") (.cons (.text _) (.cons (gN.nk r2) .nil)))) (.cons (NK.dp aNo _ (.tup (by walk_at "rs hp") (.cons (.text _) .nil))) .nil)))),
                      goodL kk hkk, .inr (.inl ⟨_, rfl⟩), true, rfl, ?_⟩
                    rw [if_neg (by decide)]
                    exact w_next ⟨_, _, _, _, _, rfl, f2.trans gN, tt⟩
                  · exact absurd z hin
                · exact absurd rfl (by cases same hn hk; exact hs)
                · exact absurd z hin
        · cases nk with
          | tup ea ra =>
            cases ra with
            | cons r1 r2 =>
              cases r1
              cases r2 with
              | cons r2 r3 =>
                cases r2
                cases r3 with
                | cons r3 r4 =>
                  cases r4
                  rename_i pv
                  walk_at "rs rd"
                  refine ⟨g, l, d, L, i, rfl, G2, hLl, fun i' s r hn hk => ?_, fun z => absurd z hin⟩
                  cases same hn hk
                  walk_at "rs rd"
                  refine ⟨g, l, d, L, i, rfl, G2, hLp, fun i' b hn hk => (by cases same hn hk), fun i' o' ps' w' hn hk hw => ?_, fun z => absurd z hin⟩
                  cases same hn hk
                  walk_at "rs rd"
                  refine w_hkey nKe t2 G2 hLs rfl rfl (fun a v H4 ha hA => ?_)
                  rcases ha with ⟨i', b, r, hn, hk, rfl⟩ | ⟨i', s, b, r, hn, hk, hs, rfl⟩ | ⟨z, _⟩
                  · exact absurd (same hn hk) (fun z => by cases z)
                  · obtain ⟨f4, t4, n4⟩ := hA
                    rw [show decide (("op" : Str) = "letter") = false from decide_eq_false (by decide +kernel)]
                    walk_at "rs rd"
                    rename_i tl htl
                    have g5 := f4.trans (FmT.new (o := .lst [.bl false, w', v]) htl)
                    have t5 := tabs_new (o := .lst [.bl false, w', v]) t4 htl
                    refine w_hkey nOp t5 (G2.sameT g5) hLs rfl rfl (fun a v6 H6 ha6 hA6 => ?_)
                    rcases ha6 with ⟨i', b, r, hn, hk, rfl⟩ | ⟨i', s, b, r, hn, hk, hs, rfl⟩ | ⟨z, _⟩
                    · cases same hn hk
                      obtain ⟨f6, t6, n6⟩ := hA6
                      have e6 := f6.lst0 upd_same
                      have g7 := f4.own (o := .lst ([.bl false, w', v] ++ [v6])) htl ((FmT.new htl).trans f6)
                      have t7 := tabs_lst (o := .lst ([.bl false, w', v] ++ [v6])) t6 e6
                      have ea7 := g7.tup ea List.not_mem_nil
                      have n47 : FmT [] _ (upd H6 tl (.lst ([.bl false, w', v] ++ [v6]))) := (FmT.refl [] _).own htl ((FmT.new (o := .lst [.bl false, w', v]) htl).trans f6)
                      have n6' := nk_put (o := .lst ([.bl false, w', v] ++ [v6])) e6 n6
                      walk_at "rs rd"
                      rw [if_neg Bool.false_ne_true]
                      walk_at "rs rd"
                      rw [if_neg Bool.false_ne_true]
                      walk_at "rs rd"
                      rename_i q2 hq2 q3 hq3
                      rw [if_neg Bool.false_ne_true]
                      walk_at "rs rd"
                      rename_i q4 hq4 q5 hq5 q6 hq6
                      have mm := (((((FmT.new (o := .tup [.str "nothing"]) hq2)).trans (FmT.new (o := .lst [.bl false, pv, .ref q2]) hq3)).trans (FmT.new (o := .tup [.str "told", .str o]) hq4)).trans (FmT.new (o := .lst [.ref q4]) hq5)).trans (FmT.new (o := .lst ([.bl false, pv, .ref q2] ++ [.ref q4])) hq6)
                      have tt := tabs_new (o := .lst ([.bl false, pv, .ref q2] ++ [.ref q4])) (tabs_new (o := .lst [.ref q4]) (tabs_new (o := .tup [.str "told", .str o]) (tabs_new (o := .lst [.bl false, pv, .ref q2]) (tabs_new (o := .tup [.str "nothing"]) t7 hq2) hq3) hq4) hq5) hq6
                      have gN := g7.trans mm
                      refine ⟨_, _, .list [.bool false, toPy (.tup (ns.map .num)), toPy aNo, toPy (aTold (.text o))], rfl,
                        .lst (SqL.of (by walk_at "rs hp")) (.cons (.bl _) (.cons (NK.dp (.tup _) _ (gN.nk hw)) (.cons (NK.dp _ _ (mm.nk (n47.nk n4))) (.cons (NK.dp _ _ (mm.nk n6')) .nil)))),
                        .lst (SqL.of upd_same) (.cons (.bl _) (.cons (NK.dp (.tup _) _ (gN.nk r3)) (.cons (NK.dp aNo _ (.tup (by walk_at "rs hp") (.cons (.text _) .nil))) (.cons (NK.dp (aTold (.text o)) _ (.tup (by walk_at "rs hp") (.cons (.text _) (.cons (.text _) .nil)))) .nil)))),
                        goodO o ns m hm ho hns hnb, .inr (.inl ⟨_, rfl⟩), true, rfl, ?_⟩
                      rw [if_neg (by decide)]
                      exact w_next ⟨_, _, _, _, _, rfl, f2.trans gN, tt⟩
                    · exact absurd rfl (by cases same hn hk; exact hs)
                    · exact absurd z hin
                  · exact absurd z hin
      · exact fun _ _ h => h
    · rintro σ H' ⟨o2, o3, o4, o5, o6, rfl, f1, t1⟩
      have e1 := f1.lst0 hrp
      clear lt3
      have hll : L.length = rs.length := hL.len
      refine w_cut (M := fun σ H' => ∃ o2 o3 o4 o5 o6 o7, σ = [some (.ref g), some (.ref rp), o2, o3, o4, o5, o6, o7] ∧ FmT [] H H' ∧ Tabs Tb H') ?_ ?_
      · walk_at "rs rd"
        refine ⟨1, rfl, ?_⟩
        walk_at "rs rd"
        rename_i tp htp
        refine ⟨tp, rfl, ⟨_, SqT.of upd_same⟩, for_it (walk_tup (xs := [.int (-1), .int (rs.length : Int), .int ((rs.length : Int) + 7)])) (fun i σ H2 => ∃ o2 o3 o4 o5 o6 o7, σ = [some (.ref g), some (.ref rp), o2, o3, o4, o5, o6, o7] ∧ FmT [] H H2 ∧ Tabs Tb H2 ∧ H2 tp = some (.tup [.int (-1), .int (rs.length : Int), .int ((rs.length : Int) + 7)]))
          ⟨_, _, _, _, _, _, rfl, f1.trans (FmT.new htp), tabs_new t1 htp, upd_same⟩ (fun i σ H2 _ ⟨_, _, _, _, _, _, _, _, _, e⟩ => SqT.of e) ?_ (fun _ _ ⟨_, _, _, _, _, _, e, f, t, _⟩ => ⟨_, _, _, _, _, _, e, f, t⟩)⟩
        rintro i x σ H1 H2 hi ⟨o2, o3, o4, o5, o6, o7, rfl, f2, t2, etp⟩ ⟨rfl, hx⟩
        obtain ⟨n, rfl, hn⟩ : ∃ n : Int, x = .int n ∧ (n < 0 ∨ (L.length : Int) ≤ n) := by
          have hm := List.mem_of_getElem? hx
          simp only [List.mem_cons, List.not_mem_nil, or_false] at hm
          rcases hm with rfl | rfl | rfl
          · exact ⟨_, rfl, .inl (by decide)⟩
          · exact ⟨_, rfl, .inr (by omega)⟩
          · exact ⟨_, rfl, .inr (by omega)⟩
        have G2 := G.sameT f2
        refine w_name ?_
        walk_at "rs rd"
        refine w_hno t2 G2 (fun H1 G1 t1 E Q' q => ?_) (fun v H1 A1 => ?_)
        · obtain ⟨dx, vs, hg1, _⟩ := id G1
          walk_at "rs rd"
          exact ⟨g, l, d, L, n, rfl, G1, hLl, fun i' s r e1 e2 => absurd (inside e1 e2) (by omega), fun _ => q _ (FmT.refl _ _) t1⟩
        · obtain ⟨f3, t3, n3⟩ := A1
          walk_at "rs rd"
          rename_i tl htl
          have hs : HS Tb H2 (upd H1 tl (.lst [v])) tl [v] 1 := ⟨⟨H1, f3, htl, FmT.new htl⟩, tabs_new t3 htl, upd_same, rfl, fun u hu => by
            rw [List.mem_singleton] at hu
            subst hu
            exact (FmT.new htl).nk n3⟩
          clear n3 t3 f3
          generalize upd H1 tl (.lst [v]) = H3 at hs ⊢
          have e3 := hs.here
          walk_at "rs rd"
          refine w_hno hs.tabs (G2.sameT hs.fr) (fun H1 G1 t1 E Q' q => ?_) (fun v H1 A1 => ?_)
          · obtain ⟨dx, vs, hg1, _⟩ := id G1
            walk_at "rs rd"
            exact ⟨g, l, d, L, n, rfl, G1, hLs, fun i' b r v e1 e2 => absurd (inside e1 e2) (by omega), fun i' s b r e1 e2 => absurd (inside e1 e2) (by omega), fun _ => q _ (FmT.refl _ _) t1⟩
          obtain ⟨e3, hs⟩ := hs.step A1
          generalize hgH : upd H1 tl _ = H4 at hs
          walk_at "rs rd"
          refine w_append e3 (show 1 < sizeLine by rw [sizeLine_eq]; decide) ?_
          rw [hgH]
          clear hgH A1 e3
          generalize H4 = H3 at hs ⊢
          have e3 := hs.here
          walk_at "rs rd"
          refine w_hno hs.tabs (G2.sameT hs.fr) (fun H1 G1 t1 E Q' q => ?_) (fun v H1 A1 => ?_)
          · obtain ⟨dx, vs, hg1, _⟩ := id G1
            walk_at "rs rd"
            exact ⟨g, l, d, L, n, rfl, G1, hLs, fun i' b r v e1 e2 => absurd (inside e1 e2) (by omega), fun i' s b r e1 e2 => absurd (inside e1 e2) (by omega), fun _ => q _ (FmT.refl _ _) t1⟩
          obtain ⟨e3, hs⟩ := hs.step A1
          generalize hgH : upd H1 tl _ = H4 at hs
          walk_at "rs rd"
          refine w_append e3 (show 2 < sizeLine by rw [sizeLine_eq]; decide) ?_
          rw [hgH]
          clear hgH A1 e3
          generalize H4 = H3 at hs ⊢
          have e3 := hs.here
          walk_at "rs rd"
          refine w_hno hs.tabs (G2.sameT hs.fr) (fun H1 G1 t1 E Q' q => ?_) (fun v H1 A1 => ?_)
          · obtain ⟨dx, vs, hg1, _⟩ := id G1
            walk_at "rs rd"
            exact ⟨g, l, d, L, n, rfl, G1, hLp, fun i' b e1 e2 => absurd (inside e1 e2) (by omega), fun i' o ps v e1 e2 => absurd (inside e1 e2) (by omega), fun _ => q _ (FmT.refl _ _) t1⟩
          obtain ⟨e3, hs⟩ := hs.step A1
          generalize hgH : upd H1 tl _ = H4 at hs
          walk_at "rs rd"
          refine w_append e3 (show 3 < sizeLine by rw [sizeLine_eq]; decide) ?_
          rw [hgH]
          clear hgH A1 e3
          generalize H4 = H3 at hs ⊢
          have e3 := hs.here
          walk_at "rs rd"
          refine w_hno hs.tabs (G2.sameT hs.fr) (fun H1 G1 t1 E Q' q => ?_) (fun v H1 A1 => ?_)
          · obtain ⟨dx, vs, hg1, _⟩ := id G1
            walk_at "rs rd"
            rename_i pp hpp
            exact ⟨g, l, d, pp, L, _, [n], rfl, G1.sameT (FmT.new hpp), upd_same, fun _ => q _ (FmT.new hpp) (tabs_new t1 hpp), fun z => absurd (z n (by simp)) (by omega)⟩
          obtain ⟨e3, hs⟩ := hs.step A1
          generalize hgH : upd H1 tl _ = H4 at hs
          walk_at "rs rd"
          refine w_append e3 (show 4 < sizeLine by rw [sizeLine_eq]; decide) ?_
          rw [hgH]
          clear hgH A1 e3
          generalize H4 = H3 at hs ⊢
          have e3 := hs.here
          walk_at "rs rd"
          refine w_hno hs.tabs (G2.sameT hs.fr) (fun H1 G1 t1 E Q' q => ?_) (fun v H1 A1 => ?_)
          · obtain ⟨dx, vs, hg1, _⟩ := id G1
            walk_at "rs rd"
            rename_i pp hpp
            exact ⟨g, l, d, pp, L, _, [0, n], rfl, G1.sameT (FmT.new hpp), upd_same, fun _ => q _ (FmT.new hpp) (tabs_new t1 hpp), fun z => absurd (z n (by simp)) (by omega)⟩
          obtain ⟨e3, hs⟩ := hs.step A1
          generalize hgH : upd H1 tl _ = H4 at hs
          walk_at "rs rd"
          refine w_append e3 (show 5 < sizeLine by rw [sizeLine_eq]; decide) ?_
          rw [hgH]
          clear hgH A1 e3
          generalize H4 = H3 at hs ⊢
          have e3 := hs.here
          walk_at "rs rd"
          rename_i q1 hq1 q2 hq2
          refine ⟨q2, 6, [.ref q1], rfl, rfl, upd_same, by decide, by decide, (show 1 * 6 ≤ sizeLine by rw [sizeLine_eq]; decide), fun q3 hq3 => ?_⟩
          generalize hys : (List.replicate (Int.toNat 6) [V.ref q1]).flatten = ys
          have hys' : ys = List.replicate 6 (V.ref q1) := by rw [← hys]; rfl
          rw [hys] at *
          have mm := ((FmT.new (o := .tup [.str "nothing"]) hq1).trans (FmT.new (o := .lst [.ref q1]) hq2)).trans (FmT.new (o := .lst ys) hq3)
          have tt := tabs_new (o := .lst ys) (tabs_new (o := .lst [.ref q1]) (tabs_new (o := .tup [.str "nothing"]) hs.tabs hq1) hq2) hq3
          have dA := dp_all (K := K) (fun v hv => mm.nk (hs.all v hv))
          rw [hs.len] at dA
          refine ⟨.list (List.replicate 6 (toPy aNo)), .list (List.replicate 6 (toPy aNo)), .lst (SqL.of (by walk_at "rs hp")) dA, .lst (SqL.of upd_same) ?_, goodN.shaped, goodN.shaped, ?_⟩
          · have dB := dp_all (K := K) (H := upd (upd (upd H3 q1 (.tup [.str "nothing"])) q2 (.lst [.ref q1])) q3 (.lst ys)) (vs := ys) (fun v hv => by
              rw [hys'] at hv
              rw [List.eq_of_mem_replicate hv]
              exact .tup (by walk_at "rs hp") (.cons (.text _) .nil))
            rw [hys', List.length_replicate] at dB
            rw [hys']
            exact dB
          · rw [goodN.eqv]
            refine ⟨_, rfl, ?_⟩
            rw [if_neg (by decide)]
            exact w_next ⟨_, _, _, _, _, _, rfl, f2.trans (hs.fr.trans mm), tt, mm.tup (hs.fr.tup etp List.not_mem_nil) List.not_mem_nil⟩
      · rintro σ H' ⟨o2, o3, o4, o5, o6, o7, rfl, f1, t1⟩
        have e1 := f1.lst0 hrp
        have G1 := G.sameT f1
        obtain ⟨dx, vs, hg1, _⟩ := id G1
        walk_at "rs rd"
        refine ⟨g, l, d, L, rfl, G1, ?_⟩
        walk_at "rs rd"
        refine ⟨_, _, .int (L.length : Int), rfl, .int _, (by rw [hll]; exact .int _), ⟨decide_eq_true (show ((L.length : Int)).natAbs < 10 ^ 12 by omega), Nat.le_of_ble_eq_true rfl, Nat.le_of_ble_eq_true rfl⟩, .inl ⟨_, rfl⟩, ?_⟩
        exact k H' f1 t1
end
end Rs

set_option Elab.async false
set_option linter.all false
set_option maxRecDepth 100000
set_option maxHeartbeats 4000000
/-! _law_are_filled -/
namespace Rs
open PySem L2 PySem.Spec PyProof.Rows LamX
local macro_rules | `(tactic| walk_at "rs ne") => `(tactic| first | assumption | (apply Ne.symm; assumption) | (apply ne_n1; assumption; walk_at "rs hp") | (apply ne_n2; assumption; walk_at "rs hp"))
local macro_rules | `(tactic| walk_at "rs hp") => `(tactic| first | assumption | exact upd_same | (apply hp_ne; (walk_at "rs ne"); (walk_at "rs hp")))
local macro_rules | `(tactic| walk_at "rs sq") => `(tactic| first | assumption | (apply SqL.of; walk_at "rs hp") | (apply SqT.of; walk_at "rs hp"))
local macro_rules | `(tactic| walk_at "rs sz") => `(tactic| first | decide | (rw [sizeLine_eq]; simp; done) | (rw [sizeLine_eq]; simp; omega) | (rw [sizeLine_eq]; omega))
local macro_rules | `(tactic| walk_at "rs ar") => `(tactic| first | assumption | (show (0 : Int) < _; first | assumption | decide | omega) | exact Or.inr ⟨by decide, by decide⟩ | exact Or.inl ⟨by decide, by decide⟩ | exact Or.inl ⟨by omega, by omega⟩ | exact Or.inr ⟨by omega, by omega⟩ | exact ⟨by decide, by decide, by decide⟩ | exact ⟨by decide, by decide⟩ | exact ⟨by omega, by omega⟩)
local macro_rules | `(tactic| walk_at "rs r1") => `(tactic| with_reducible (first | refine w_var rfl ?_ | refine w_c ?_ | refine w_op ?_ | refine w_un ?_ | refine w_test ?_ | refine w_B ?_ | refine w_bool ?_ | refine w_not ?_ | refine w_cb ?_ | refine w_nil ?_ | refine w_cons ?_ | refine w_asg ?_ | refine w_name ?_ | refine w_seq ?_ | refine w_ret ?_ | refine w_drop ?_ | refine w_next ?_ | refine w_ifS ?_ | refine w_I0 ?_ | refine w_eqI ?_ | refine w_neI ?_ | refine w_int ?_ | refine w_abs ?_ | refine w_sl ?_ | refine w_part ?_ | refine w_intO ?_ | refine w_nopart ?_ | refine w_gsub ?_ | refine w_augS ?_ | refine w_ip ?_ | refine w_lst ?_ | refine w_tup ?_ | refine w_if ?_ | refine w_and ?_ | refine w_or ?_ | refine w_tfld ?_ | refine w_forL ?_ | refine w_forT ?_ | refine w_forR1 ?_ | refine w_forR2 ?_ | refine w_forE ?_ | refine w_lcL ?_ | refine w_lcR1 ?_ | refine w_bm ?_ | refine w_call ?_ | refine w_meth ?_ | refine w_nget ?_ | refine w_nin ?_ | refine w_nput ?_ | refine w_eqS ?_ | refine w_neS ?_))
local macro_rules | `(tactic| walk_at "rs r2") => `(tactic| first | (walk_at "rs r1") | ((with_reducible refine' w_ixL ?h1 ?h2 ?h3); (case h1 => walk_at "rs sq"); (case h2 => first | rfl | exact atI_nat (j := 0) rfl | exact atI_nat (j := 1) rfl | exact atI_nat (j := 2) rfl)) | ((with_reducible refine' w_ixT ?h1 ?h2 ?h3); (case h1 => walk_at "rs sq"); (case h2 => first | rfl | exact atI_nat (j := 0) rfl | exact atI_nat (j := 1) rfl | exact atI_nat (j := 2) rfl)) | ((with_reducible refine' w_cutL ?h1 ?_); (case h1 => walk_at "rs sq"); intro q hq) | ((with_reducible refine' w_cat ?h1 ?h2 ?h3 ?_); (case h1 => walk_at "rs hp"); (case h2 => walk_at "rs hp"); (case h3 => walk_at "rs sz"); intro q hq) | ((with_reducible refine' w_small ?h1 ?_); (case h1 => exact Nat.le_of_ble_eq_true rfl); intro q hq) | ((with_reducible refine' w_setL ?h1 ?h2 ?_); (case h1 => walk_at "rs hp"); (case h2 => rfl)) | ((with_reducible refine' w_getL ?h0 ?h1 ?h2 ?_); (case h0 => rfl); (case h1 => walk_at "rs sq"); (case h2 => rfl)) | ((with_reducible refine' w_lenL ?h1 ?_); (case h1 => walk_at "rs sq")) | ((with_reducible refine' w_lenT ?h1 ?_); (case h1 => walk_at "rs sq")) | ((with_reducible refine' w_fld ?h1 ?h2 ?h3 ?h4 ?_); (case h1 => assumption); (case h2 => assumption); (case h3 => walk_at "rs hp"); (case h4 => assumption)) | ((with_reducible refine' w_methAt ?h1 ?h2 ?_); (case h1 => walk_at "rs hp"); (case h2 => assumption)) | ((with_reducible refine' w_tyL ?h1 ?_); (case h1 => walk_at "rs sq")) | ((with_reducible refine' w_append ?h1 ?h2 ?_); (case h1 => walk_at "rs hp"); (case h2 => assumption)) | ((with_reducible refine' w_I ?h1 ?_); (case h1 => walk_at "rs ar")))
local macro_rules | `(tactic| walk_at "rs rd") => `(tactic| repeat (walk_at "rs r2"))
abbrev sFilled : Stmt := top 18
abbrev qFilled : Str := ("_law_are_filled" : Str) ++ ".<locals>." ++ "<lambda>"
def hK (n : Int) : NestedKey := .tup [.text "op", .text "h", .tup [.num n]]
/-- the rows and a chain of n nodes behind them -/
def hL (L : List NestedKey) (n : Nat) : List NestedKey := L ++ (List.range n).map fun j : Nat => hK ((L.length : Int) - 1 + (j : Int))
def newK : List NestedKey := [.tup [.text "letter", .text "new"], hK 2999, .tup [.text "op", .text "f", .tup [.num 2999, .num 0]], .tup [.text "op", .text "z", .tup []]]
section
variable {L : List NestedKey} {n : Nat}
theorem hL_len : (hL L n).length = L.length + n := by simp [hL]
theorem hL_zero : hL L 0 = L := by simp [hL]
theorem hL_succ : hL L (n + 1) = hL L n ++ [hK ((L.length : Int) - 1 + (n : Int))] := by simp [hL, List.range_succ, List.append_assoc]
theorem hL_old {i : Nat} (h : i < L.length) : (hL L n)[i]? = L[i]? := List.getElem?_append_left h
theorem hL_new {j : Nat} (h : j < n) : (hL L n)[L.length + j]? = some (hK ((L.length : Int) - 1 + (j : Int))) := by
  unfold hL
  rw [List.getElem?_append_right (by omega)]
  simp [h]
theorem hL_mem {k : NestedKey} (h : k ∈ hL L n) : k ∈ L ∨ ∃ j < n, k = hK ((L.length : Int) - 1 + (j : Int)) := by
  rcases List.mem_append.mp h with h | h
  · exact .inl h
  · obtain ⟨j, hj, e⟩ := List.mem_map.mp h
    exact .inr ⟨j, List.mem_range.mp hj, e.symm⟩
theorem hK_inj {a b : Int} (h : hK a = hK b) : a = b := by
  unfold hK at h
  injection h with h
  simpa using h
theorem row_noH {q : Int} {k : NestedKey} (h : ∃ m ≤ 100, IsRow m k) : k ≠ hK q := fun z => by
  obtain ⟨m, _, ⟨kk, _, rfl⟩ | ⟨o, ns, ho, _, _, rfl⟩⟩ := h
  · cases z
  · have e : o = "h" := by
      unfold hK at z
      simp at z
      exact z.1
    subst e
    exact absurd ho (by decide +kernel)
theorem hK_out {q : Int} (hrow : ∀ k ∈ L, ∃ m ≤ 100, IsRow m k) (hq : ∀ j < n, q ≠ (L.length : Int) - 1 + (j : Int)) : hK q ∉ hL L n := fun z => by
  rcases hL_mem z with z | ⟨j, hj, e⟩
  · exact row_noH (hrow _ z) rfl
  · exact hq j hj (hK_inj e)
theorem new_out (hrow : ∀ k ∈ L, ∃ m ≤ 100, IsRow m k) (h : L.length + n = 3000) (h1 : 1 ≤ L.length) : ∀ k ∈ newK, k ∉ hL L n := fun k hk => by
  simp only [newK, List.mem_cons, List.not_mem_nil, or_false] at hk
  rcases hk with rfl | rfl | rfl | rfl
  · intro z
    rcases hL_mem z with z | ⟨j, hj, e⟩
    · obtain ⟨m, _, ⟨kk, hkk, e⟩ | ⟨o, ns, ho, _, _, e⟩⟩ := hrow _ z
      · have e' : kk = .text "new" := by simpa using e.symm
        subst e'
        exact absurd hkk (by simp [keysK]; decide +kernel)
      · cases e
    · cases e
  · exact hK_out hrow fun j hj => by omega
  · intro z
    rcases hL_mem z with z | ⟨j, hj, e⟩
    · obtain ⟨m, hm, ⟨kk, hkk, e⟩ | ⟨o, ns, ho, _, hb, e⟩⟩ := hrow _ z
      · cases e
      · simp only [NestedKey.tup.injEq, List.cons.injEq, NestedKey.text.injEq, and_true, true_and] at e
        obtain ⟨_, e'⟩ := e
        match ns, e' with
        | [a, b], e' =>
          have : a = 2999 := by simpa using (List.cons.inj e').1.symm
          have := hb a (by simp)
          omega
    · cases e
  · intro z
    rcases hL_mem z with z | ⟨j, hj, e⟩
    · obtain ⟨m, _, ⟨kk, hkk, e⟩ | ⟨o, ns, ho, _, _, e⟩⟩ := hrow _ z
      · cases e
      · have e' : o = "z" := by
          simp only [NestedKey.tup.injEq, List.cons.injEq, NestedKey.text.injEq, and_true, true_and] at e
          exact e.1.symm
        subst e'
        exact absurd ho (by decide +kernel)
    · cases e
theorem new_ask : ∀ k ∈ newK, AskK 3000 k := fun k hk => by
  simp only [newK, List.mem_cons, List.not_mem_nil, or_false] at hk
  rcases hk with rfl | rfl | rfl | rfl
  · exact .inl ⟨_, rfl, by decide⟩
  · exact .inr ⟨"h", [2999], rfl, by simp⟩
  · exact .inr ⟨"f", [2999, 0], rfl, by simp⟩
  · exact .inr ⟨"z", [], rfl, by simp⟩
theorem hL_shape (hrow : ∀ k ∈ L, ∃ m ≤ 100, IsRow m k) : ∀ k ∈ hL L n, (∃ b, k = .tup [.text "letter", b]) ∨ ∃ o ps, k = .tup [.text "op", .text o, .tup ps] := fun k hk => by
  rcases hL_mem hk with h | ⟨j, _, rfl⟩
  · obtain ⟨m, _, ⟨kk, _, rfl⟩ | ⟨o, ns, _, _, _, rfl⟩⟩ := hrow k h
    · exact .inl ⟨_, rfl⟩
    · exact .inr ⟨_, _, rfl⟩
  · exact .inr ⟨_, _, rfl⟩
end
/-- the graph filled to its most -/
def spFilled (P : Program) (w : World) (C : Addr) (T : List (Addr × Str)) : Sp := fun vs H Q _ => ∃ (b c g rp l d : Addr) (L : List NestedKey) (rs : List V), vs = [.ref b, .ref g, .ref rp] ∧ Bag H b c ∧ GraphAt P w C H g l d L ∧ H rp = some (.lst rs) ∧ NKs H L rs ∧ 1 ≤ L.length ∧ L.length ≤ 100 ∧ (∀ k ∈ L, ∃ m ≤ 100, IsRow m k) ∧ Tabs T H ∧
  (rp ≠ l ∧ rp ≠ b ∧ b ≠ l ∧ c ≠ l) ∧ ∀ H', FmT [b, l, d] H H' → Tabs T H' → Q (.bl true) H'
section
variable {P : Program} {w : World} {K : PySem.W.Frag} {mg : Str → Option Value} {base : Heap} {C CT fT CN : Addr}
theorem GraphAt.plain {H : Hp} {g l d : Addr} {L : List NestedKey} (x : GraphAt P w C H g l d L) : Plain H [l, d] := fun a ha => by
  obtain ⟨dx, vs, h1, h2, h3, ⟨es, h4, _⟩, _⟩ := x
  simp only [List.mem_cons, List.not_mem_nil, or_false] at ha
  rcases ha with rfl | rfl
  · exact plain_lst h2
  · exact plain_nd h4
theorem GraphAt.neD {H : Hp} {g l d a : Addr} {L : List NestedKey} {xs : List V} (x : GraphAt P w C H g l d L) (h : H a = some (.lst xs)) : a ≠ d := fun z => by
  obtain ⟨dx, vs, h1, h2, h3, ⟨es, h4, _⟩, _⟩ := x
  rw [z, h4] at h
  exact ndo_lst (Option.some.inj h)
theorem not_in2 {a p q : Addr} (h : a ≠ p) (k : a ≠ q) : a ∉ [p, q] := fun z => by
  simp only [List.mem_cons, List.not_mem_nil, or_false] at z
  rcases z with z | z
  · exact h z
  · exact k z
theorem rep_mem {n : Nat} {v u : V} (h : u ∈ (List.replicate n [v]).flatten) : u = v := by
  rw [List.mem_flatten] at h
  obtain ⟨l, hl, hu⟩ := h
  rw [List.eq_of_mem_replicate hl, List.mem_singleton] at hu
  exact hu
theorem rep_len {n : Nat} {v : V} : (List.replicate n [v]).flatten.length = n := by simp
theorem dp_rep {H : Hp} {v : V} {n : Nat} (h : NK H aNo v) : DpAll K H (List.replicate n [v]).flatten (List.replicate n (toPy aNo)) := by
  have d := dp_all (K := K) (H := H) (vs := (List.replicate n [v]).flatten) fun u hu => by rw [rep_mem hu]; exact h
  rw [rep_len] at d
  exact d
theorem Bag.sameT {H H' : Hp} {b c : Addr} (h : Bag H b c) (f : FmT [] H H') : Bag H' b c := h.frameT f List.not_mem_nil List.not_mem_nil
theorem Bag.neN {H : Hp} {a b c : Addr} (h : Bag H b c) (n : H a = none) : a ≠ b := fun z => by
  obtain ⟨_, _, _, _, h, _⟩ := h
  rw [z, h] at n
  cases n
theorem Bag.plain {H : Hp} {b c : Addr} (h : Bag H b c) : Plain H [b] := fun a ha => by
  rw [List.mem_singleton] at ha
  subst ha
  obtain ⟨_, _, _, _, h, _⟩ := h
  exact plain_lst h
theorem GraphAt.bag {H H' : Hp} {g l d b c : Addr} {L : List NestedKey} (x : GraphAt P w C H g l d L) (B : Bag H b c) (f : Fm [b] H H') (n1 : b ≠ l) (n2 : b ≠ d) : GraphAt P w C H' g l d L := by
  obtain ⟨_, _, _, _, hb, _⟩ := B
  obtain ⟨dx, vs, hg, _⟩ := id x
  exact x.frame f (not_in1 fun z => by rw [z, hb] at hg; cases hg) (not_in1 n1.symm) (not_in1 n2.symm) fun a xs e => not_in1 fun z => by rw [z, hb] at e; cases e
theorem good3 {a b c : Int} (h1 : a.natAbs < 10 ^ 12) (h2 : b.natAbs < 10 ^ 12) (h3 : c.natAbs < 10 ^ 12) : Good (.list [.int a, .int b, .int c]) := by
  refine ⟨?_, Nat.le_of_ble_eq_true rfl, Nat.le_of_ble_eq_true rfl⟩
  show (decide (a.natAbs < 10 ^ 12) && (decide (b.natAbs < 10 ^ 12) && (decide (c.natAbs < 10 ^ 12) && true))) = true
  rw [decide_eq_true h1, decide_eq_true h2, decide_eq_true h3]
  rfl
theorem goodE : Good (.list [.str "h", toPy (.tup [.num 2998])]) := ⟨by decide +kernel, by decide +kernel, by decide +kernel⟩
theorem good2 : Good (.list (List.replicate 2 (toPy aNo))) := ⟨by decide +kernel, by decide +kernel, by decide +kernel⟩
theorem goodB : Good (toPy aBig) := ⟨by decide +kernel, by decide +kernel, by decide +kernel⟩
theorem scFilled : FnScope ["bag", "graph", "rows", "many", "at", "new", "row", "some", "told"] ["bag", "graph", "rows"] (defScope sFilled) := ⟨rfl, rfl, rfl, by decide +kernel, rfl, by decide +kernel, by decide +kernel⟩
theorem ok_filled {f c Pt fH fA fIs fPa fOp fNo fMa fMi fAs fTa : Addr} {fd fdH fdA fdPa fdOp fdNo fdMa fdMi fdAs fdTa : FuncData} {Tb : List (Addr × Str)} (F : FunC K "_law_are_filled" "_law_are_filled" sFilled f fd c) (T : TxtG P K mg C CT fT CN) (TH : TxtH K mg CT CN) (mR : mg "range" = none)
    (FH : Fun K "_law_heard" "_law_heard" sHeard fH fdH) (bH : Binds K fdH ["act"] []) (mHd : mg "_law_heard" = some (.ref fH)) (TB : TabB base mg c Pt) (hmT : (Pt, qFilled) ∈ Tb) (hu : ∀ p ∈ Tb, p.1 = Pt → p.2 = qFilled)
    (GA : FnG P w K mg base CX0 1 fA fdA ["found", "due"] (spAlike K)) (mA : mg "_law_alike" = some (.ref fA)) (kA : PySem.W.keepIn K (.ref fA) = true) (bA : Binds K fdA ["found", "due"] [])
    (GPa : FnOk P w K mg base (L2.CX P w) 3 fPa fdPa ["self", "n"] (spParts P w C CN)) (bPa : Binds K fdPa ["self", "n"] []) (mPa : Meth K C "parts_of" fPa)
    (GOp : FnOk P w K mg base (L2.CX P w) 3 fOp fdOp ["self", "n"] (spKey P w C CN "op")) (bOp : Binds K fdOp ["self", "n"] []) (mOp : Meth K C "op_of" fOp)
    (GNo : FnOk P w K mg base (L2.CX P w) 4 fNo fdNo ["self", "op", "parts"] (spNode P w C CT CN)) (bNo : Binds K fdNo ["self", "op", "parts"] []) (mNo : Meth K C "node" fNo)
    (GMa : FnOk P w K mg base CX0 1 fMa fdMa ["self"] (spMany P w C)) (bMa : Binds K fdMa ["self"] []) (mMa : Meth K C "many" fMa)
    (GMi : FnOk P w K mg base CX0 2 fMi fdMi ["bag", "things"] (spMixed K)) (mMi : mg "_law_mixed" = some (.ref fMi)) (kMi : PySem.W.keepIn K (.ref fMi) = true) (bMi : Binds K fdMi ["bag", "things"] [])
    (GTa : FnOk P w K mg base CX0 1 fTa fdTa ["bag", "many"] spTake) (mTa : mg "_law_take" = some (.ref fTa)) (kTa : PySem.W.keepIn K (.ref fTa) = true) (bTa : Binds K fdTa ["bag", "many"] [])
    (GAs : FnOk P w K mg base (L2.CX P w) 5 fAs fdAs ["graph", "row"] (spAsked P w C CT)) (mAs : mg "_law_asked" = some (.ref fAs)) (kAs : PySem.W.keepIn K (.ref fAs) = true) (bAs : Binds K fdAs ["graph", "row"] []) :
    FnG P w K mg base CX0 8 f fd ["bag", "graph", "rows"] (spFilled P w C Tb) := by
  refine okGc F scFilled (fun vs H Q E h => ?_) (fun A outer s H vs Q E hgd hr h => ?_)
  · obtain ⟨b, c, g, rp, l, d, L, rs, rfl, _⟩ := h
    rfl
  · obtain ⟨b, c, g, rp, l, d, L, rs, rfl, B, G, hrp, hL', h1, hlen, hrow, tabs, ⟨n1, n2, n3, n4⟩, k⟩ := h
    have nd := scFilled.nd
    refine ⟨_, (pss_cons (ps_set (i := 3) nd rfl (Or.inl rfl) (pe_callB c_len (by rfl) T.len PySem.boot_len (pa_cons (pv 2) pa_nil))) (Evl.pss_cut (ps_for PassesOwn.never rfl (pi_range2 rfl mR (pa_cons (pv 3) (pa_cons pe_int pa_nil))) (pg_name (i := 4) nd rfl (Or.inl rfl)) (pss_one (ps_if (pt_cmpR op_ne (pe_meth (E := E0) (pv 1) T.cl mNo GNo (hr.mono (by decide)) bNo .nil (passes_call LamX.takes0 fun _ _ _ _ h => h) (pa_cons pe_str (pa_cons (pe_tup (pa_cons (pe_op op_sub (pv 4) pe_int) pa_nil)) pa_nil))) (pv 4) (nomark _)) (pss_one (ps_ret pe_bl)) pss_nil))) (pss_cons (ps_if (pt_cmpR (op_neD hr.units) (pe_op op_rep (pe_lst (pa_cons (pe_heard (k := 5) FH bH TH mHd TB (hr.mono (by decide)) rfl hmT hu rfl (lamS_by (sc := defScope sFilled) (by decide +kernel)) rfl (fun _ _ _ _ _ => rfl) (fun A outer s H E f c' hr' => (pe_meth (E := E) (pv 1) T.cl mNo GNo (hr'.mono (by decide)) bNo .nil (passes_call (takes_of rfl rfl rfl rfl) fun _ _ _ _ h => h) (pa_cons pe_str (pa_cons (pe_tup (pa_cons pe_int pa_nil)) pa_nil))))) pa_nil)) pe_int) (pe_op op_rep (pe_lst (pa_cons (pe_tup (pa_cons pe_str pa_nil)) pa_nil)) pe_int) (nomark _)) (pss_one (ps_ret pe_bl)) pss_nil) (pss_cons (ps_set (i := 5) nd rfl (Or.inl rfl) (pe_lst (pa_cons (pe_tup (pa_cons pe_str (pa_cons pe_str pa_nil))) (pa_cons (pe_tup (pa_cons pe_str (pa_cons pe_str (pa_cons (pe_tup (pa_cons pe_int pa_nil)) pa_nil)))) (pa_cons (pe_tup (pa_cons pe_str (pa_cons pe_str (pa_cons (pe_tup (pa_cons pe_int (pa_cons pe_int pa_nil))) pa_nil)))) (pa_cons (pe_tup (pa_cons pe_str (pa_cons pe_str (pa_cons (pe_tup pa_nil) pa_nil)))) pa_nil)))))) (Evl.pss_cut (ps_for PassesOwn.never rfl (pi_list (pe_call (E := E0) GMi (hr.mono (by decide)) rfl mMi kMi bMi .nil pass0 (pa_cons (pv 0) (pa_cons (pv 5) pa_nil)))) (pg_name (i := 6) nd rfl (Or.inr rfl)) (pss_one (ps_if (PW.pt (pw_or (pt_cmpR (op_neD hr.units) (pe_heard (k := 5) FH bH TH mHd TB (hr.mono (by decide)) rfl hmT hu rfl (lamS_by (sc := defScope sFilled) (by decide +kernel)) rfl (fun _ _ _ _ _ => rfl) (fun A outer s H E f c' hr' => (pe_call (E := E) GAs (hr'.mono (by decide)) rfl mAs kAs bAs .nil (passes_call (takes_of rfl rfl rfl rfl) fun _ _ _ _ h => h) (pa_cons (pv 1) (pa_cons (pv 6) pa_nil))))) (pe_tup (pa_cons pe_str (pa_cons pe_str (pa_cons pe_int pa_nil)))) (nomark _)) (pw_or1 (pt_cmpR op_ne (pe_meth0 (E := E0) (pv 1) T.cl mMa GMa (hr.mono (by decide)) bMa .nil pass0) pe_int (nomark _))))) (pss_one (ps_ret pe_bl)) pss_nil))) (pss_cons (ps_set (i := 7) nd rfl (Or.inl rfl) (pe_call (E := E0) GTa (hr.mono (by decide)) rfl mTa kTa bTa .nil pass0 (pa_cons (pv 0) (pa_cons (pv 3) pa_nil)))) (pss_cons (ps_set (i := 8) nd rfl (Or.inl rfl) (pe_lst (pa_cons (pe_call (E := E0) GAs (hr.mono (by decide)) rfl mAs kAs bAs .nil (passes_call LamX.takes0 fun _ _ _ _ h => h) (pa_cons (pv 1) (pa_cons (pe_ix ix_list (pv 2) (pv 7) (fun _ _ => rfl)) pa_nil))) (pa_cons (pe_meth (E := E0) (pv 1) T.cl mNo GNo (hr.mono (by decide)) bNo .nil (passes_call LamX.takes0 fun _ _ _ _ h => h) (pa_cons pe_str (pa_cons (pe_tup (pa_cons pe_int pa_nil)) pa_nil))) (pa_cons (pe_meth (E := E0) (pv 1) T.cl mNo GNo (hr.mono (by decide)) bNo .nil (passes_call LamX.takes0 fun _ _ _ _ h => h) (pa_cons pe_str (pa_cons (pe_tup (pa_cons (pe_op op_sub (pv 3) pe_int) pa_nil)) pa_nil))) pa_nil))))) (pss_one (ps_ret (pe_and (pe_callG (E := E0) GA hgd (hr.mono (by decide)) rfl mA kA bA pass0 (pa_cons (pv 8) (pa_cons (pe_lst (pa_cons (pv 7) (pa_cons pe_int (pa_cons (pv 3) pa_nil)))) pa_nil))) (pe_one (pe_callG (E := E0) GA hgd (hr.mono (by decide)) rfl mA kA bA pass0 (pa_cons (pe_lst (pa_cons (pe_meth (E := E0) (pv 1) T.cl mOp GOp (hr.mono (by decide)) bOp .nil (passes_call LamX.takes0 fun _ _ _ _ h => h) (pa_cons pe_int pa_nil)) (pa_cons (pe_meth (E := E0) (pv 1) T.cl mPa GPa (hr.mono (by decide)) bPa .nil (passes_call LamX.takes0 fun _ _ _ _ h => h) (pa_cons pe_int pa_nil)) pa_nil))) (pa_cons (pe_lst (pa_cons pe_str (pa_cons (pe_tup (pa_cons pe_int pa_nil)) pa_nil))) pa_nil)))))))))))))), ?_⟩
    have hll : L.length = rs.length := hL'.len
    have nNo : (gf l d).lookup ("node" : Str) = none := gf_no _ _ (by decide +kernel) (by decide +kernel)
    have nMa : (gf l d).lookup ("many" : Str) = none := gf_no _ _ (by decide +kernel) (by decide +kernel)
    have nPa : (gf l d).lookup ("parts_of" : Str) = none := gf_no _ _ (by decide +kernel) (by decide +kernel)
    have nOp : (gf l d).lookup ("op_of" : Str) = none := gf_no _ _ (by decide +kernel) (by decide +kernel)
    have nrd : rp ≠ d := G.neD hrp
    have nbd : b ≠ d := by
      obtain ⟨_, _, _, _, h, _⟩ := B
      exact G.neD h
    have ncd : c ≠ d := by
      obtain ⟨_, _, _, _, _, _, _, h, _⟩ := B
      exact G.neD h
    have plG := G.plain
    walk_at "rs rd"
    refine w_cut (M := fun σ H' => ∃ o4, σ = [some (.ref b), some (.ref g), some (.ref rp), some (.int (rs.length : Int)), o4, none, none, none, none] ∧ GraphAt P w C H' g l d (hL L (3000 - L.length)) ∧ Fm [l, d] H H') ?_ ?_
    · walk_at "rs rd"
      refine ⟨(rs.length : Int), 3000, rfl, ⟨by omega, by omega, by decide, by decide⟩, for_it (walk_range (lo := (rs.length : Int)) (n := (3000 - (rs.length : Int)).toNat)) (fun i σ H' => ∃ o4, σ = [some (.ref b), some (.ref g), some (.ref rp), some (.int (rs.length : Int)), o4, none, none, none, none] ∧ GraphAt P w C H' g l d (hL L i) ∧ Fm [l, d] H H')
        ⟨_, rfl, by rw [hL_zero]; exact G, Fm.refl _ _⟩ (fun _ _ _ _ _ => trivial) ?_ (fun σ H' ⟨o4, e, G', f'⟩ => ⟨o4, e, by rw [show 3000 - L.length = (3000 - (rs.length : Int)).toNat by omega]; exact G', f'⟩)⟩
      rintro i x σ H1 H2 hi ⟨o4, rfl, G1, f1⟩ ⟨rfl, rfl⟩
      obtain ⟨dx, vs, hg1, _⟩ := id G1
      refine w_name ?_
      walk_at "rs rd"
      rename_i pp hpp
      have hlen' := hL_len (L := L) (n := i)
      refine ⟨g, l, d, pp, hL L i, _, [(rs.length : Int) + (i : Int) - 1], rfl, G1.same (Fm.new hpp), upd_same, fun ⟨n, hn, z⟩ => ?_, fun _ => ⟨fun i' H' e _ _ => ?_, fun _ _ H3 G3 f3 => ?_, fun _ z => absurd (by rw [hlen']; omega) z⟩⟩
      · rw [List.mem_singleton] at hn
        omega
      · refine absurd (List.mem_of_getElem? e) (hK_out (q := (rs.length : Int) + (i : Int) - 1) hrow fun j hj => by omega)
      · walk_at "rs rd"
        refine w_iteN (fun z => absurd (by omega) z) (fun _ => ?_)
        refine w_next ⟨_, rfl, ?_, (f1.thenNew hpp).trans f3⟩
        rw [hL_succ, show (L.length : Int) - 1 + (i : Int) = (rs.length : Int) + (i : Int) - 1 by omega]
        exact G3
    · rintro σ H1 ⟨o4, rfl, G1, f1⟩
      have t1 : Tabs Tb H1 := tabs_fm tabs f1 plG
      have hN : (hL L (3000 - L.length)).length = 3000 := by rw [hL_len]; omega
      have B1 : Bag H1 b c := B.frame f1 (not_in2 n3 nbd) (not_in2 n4 ncd)
      have fB : FmT [b, l, d] H H1 := FmT.of (f1.wide fun x hx => List.mem_cons_of_mem _ hx)
      walk_at "rs rd"
      refine w_hno t1 G1 (fun H2 G2 t2 E Q' q => ?_) (fun v H2 A2 => ?_)
      · obtain ⟨dx, vs, hg1, _⟩ := id G2
        walk_at "rs rd"
        rename_i pp hpp
        exact ⟨g, l, d, pp, _, _, [3000], rfl, G2.sameT (FmT.new hpp), upd_same, fun _ => q _ (FmT.new hpp) (tabs_new t2 hpp), fun z => absurd (z 3000 (by simp)) (by omega)⟩
      · obtain ⟨f2, t2, n2'⟩ := A2
        walk_at "rs rd"
        rename_i q1 hq1
        refine ⟨q1, 2, [v], rfl, rfl, upd_same, by decide, by decide, (show 1 * 2 ≤ sizeLine by rw [sizeLine_eq]; decide), fun q2 hq2 => ?_⟩
        walk_at "rs rd"
        rename_i q3 hq3 q4 hq4
        refine ⟨q4, 2, [.ref q3], rfl, rfl, upd_same, by decide, by decide, (show 1 * 2 ≤ sizeLine by rw [sizeLine_eq]; decide), fun q5 hq5 => ?_⟩
        have m5 := ((((FmT.new (o := .lst [v]) hq1).trans (FmT.new (o := .lst (List.replicate (Int.toNat 2) [v]).flatten) hq2)).trans (FmT.new (o := .tup [.str "nothing"]) hq3)).trans (FmT.new (o := .lst [.ref q3]) hq4)).trans (FmT.new (o := .lst (List.replicate (Int.toNat 2) [V.ref q3]).flatten) hq5)
        have t5 := tabs_new (o := .lst (List.replicate (Int.toNat 2) [V.ref q3]).flatten) (tabs_new (o := .lst [.ref q3]) (tabs_new (o := .tup [.str "nothing"]) (tabs_new (o := .lst (List.replicate (Int.toNat 2) [v]).flatten) (tabs_new (o := .lst [v]) t2 hq1) hq2) hq3) hq4) hq5
        refine ⟨.list (List.replicate 2 (toPy aNo)), .list (List.replicate 2 (toPy aNo)), .lst (SqL.of (by walk_at "rs hp")) (dp_rep (m5.nk n2')), .lst (SqL.of upd_same) (dp_rep (.tup (by walk_at "rs hp") (.cons (.text _) .nil))), good2.shaped, good2.shaped, ?_⟩
        rw [good2.eqv]
        refine ⟨_, rfl, ?_⟩
        rw [if_neg (by decide)]
        refine w_next ?_
        have f5 := f2.trans m5
        generalize upd (upd (upd (upd (upd H2 q1 _) q2 _) q3 _) q4 _) q5 _ = H5 at f5 t5 ⊢
        clear m5 hq1 hq2 hq3 hq4 hq5 n2' t2 f2
        walk_at "rs rd"
        rename_i a1 ha1 a2 ha2 a3 ha3 a4 ha4 a5 ha5 a6 ha6 a7 ha7 a8 ha8
        have f8 := (((((((FmT.new (o := .tup [.str "letter", .str "new"]) ha1).trans (FmT.new (o := .tup [.int 2999]) ha2)).trans (FmT.new (o := .tup [.str "op", .str "h", .ref a2]) ha3)).trans (FmT.new (o := .tup [.int 2999, .int 0]) ha4)).trans (FmT.new (o := .tup [.str "op", .str "f", .ref a4]) ha5)).trans (FmT.new (o := .tup []) ha6)).trans (FmT.new (o := .tup [.str "op", .str "z", .ref a6]) ha7)).trans (FmT.new (o := .lst [.ref a1, .ref a3, .ref a5, .ref a7]) ha8)
        have t8 := tabs_new (o := .lst [.ref a1, .ref a3, .ref a5, .ref a7]) (tabs_new (o := .tup [.str "op", .str "z", .ref a6]) (tabs_new (o := .tup []) (tabs_new (o := .tup [.str "op", .str "f", .ref a4]) (tabs_new (o := .tup [.int 2999, .int 0]) (tabs_new (o := .tup [.str "op", .str "h", .ref a2]) (tabs_new (o := .tup [.int 2999]) (tabs_new (o := .tup [.str "letter", .str "new"]) t5 ha1) ha2) ha3) ha4) ha5) ha6) ha7) ha8
        have hnk : NKs (upd (upd (upd (upd (upd (upd (upd (upd H5 a1 (.tup [.str "letter", .str "new"])) a2 (.tup [.int 2999])) a3 (.tup [.str "op", .str "h", .ref a2])) a4 (.tup [.int 2999, .int 0])) a5 (.tup [.str "op", .str "f", .ref a4])) a6 (.tup [])) a7 (.tup [.str "op", .str "z", .ref a6])) a8 (.lst [.ref a1, .ref a3, .ref a5, .ref a7])) newK [.ref a1, .ref a3, .ref a5, .ref a7] := by
          unfold newK hK
          refine .cons (.tup (by walk_at "rs hp") (.cons (.text _) (.cons (.text _) .nil))) (.cons (.tup (by walk_at "rs hp") (.cons (.text _) (.cons (.text _) (.cons (.tup (by walk_at "rs hp") (.cons (.num _) .nil)) .nil)))) (.cons (.tup (by walk_at "rs hp") (.cons (.text _) (.cons (.text _) (.cons (.tup (by walk_at "rs hp") (.cons (.num _) (.cons (.num _) .nil))) .nil)))) (.cons (.tup (by walk_at "rs hp") (.cons (.text _) (.cons (.text _) (.cons (.tup (by walk_at "rs hp") .nil) .nil)))) .nil)))
        have e8 : upd (upd (upd (upd (upd (upd (upd (upd H5 a1 (.tup [.str "letter", .str "new"])) a2 (.tup [.int 2999])) a3 (.tup [.str "op", .str "h", .ref a2])) a4 (.tup [.int 2999, .int 0])) a5 (.tup [.str "op", .str "f", .ref a4])) a6 (.tup [])) a7 (.tup [.str "op", .str "z", .ref a6])) a8 (.lst [.ref a1, .ref a3, .ref a5, .ref a7]) a8 = some (.lst [.ref a1, .ref a3, .ref a5, .ref a7]) := upd_same
        have hne : a8 ≠ b := (B1.sameT (f5.trans (((((((FmT.new (o := .tup [.str "letter", .str "new"]) ha1).trans (FmT.new (o := .tup [.int 2999]) ha2)).trans (FmT.new (o := .tup [.str "op", .str "h", .ref a2]) ha3)).trans (FmT.new (o := .tup [.int 2999, .int 0]) ha4)).trans (FmT.new (o := .tup [.str "op", .str "f", .ref a4]) ha5)).trans (FmT.new (o := .tup []) ha6)).trans (FmT.new (o := .tup [.str "op", .str "z", .ref a6]) ha7)))).neN ha8
        generalize upd (upd (upd (upd (upd (upd (upd (upd H5 a1 _) a2 _) a3 _) a4 _) a5 _) a6 _) a7 _) a8 _ = H8 at f8 t8 hnk e8 ⊢
        clear ha1 ha2 ha3 ha4 ha5 ha6 ha7 ha8
        have f18 := f5.trans f8
        have G8 := G1.sameT f18
        have B8 := B1.sameT f18
        refine w_cut (M := fun σ H' => ∃ o6, σ = [some (.ref b), some (.ref g), some (.ref rp), some (.int (rs.length : Int)), o4, some (.ref a8), o6, none, none] ∧ FmT [b] H8 H' ∧ Tabs Tb H' ∧ Bag H' b c ∧ GraphAt P w C H' g l d (hL L (3000 - L.length))) ?_ ?_
        · walk_at "rs rd"
          refine ⟨b, c, a8, _, rfl, Nat.le_of_ble_eq_true rfl, hne, SqL.of e8, B8, fun q ys H9 hq eq pm B9 f9 => ?_⟩
          have t9 : Tabs Tb H9 := tabs_fm t8 f9 B8.plain
          have G9 := G8.bag B8 f9 n3 nbd
          have n9 : ∀ x ∈ ys, ∃ k ∈ newK, NK H9 k x := fun x hx => by
            obtain ⟨k, hk, n⟩ := hnk.mem (pm.mem_iff.mp hx)
            exact ⟨k, hk, NK.mono (B8.tp f9) _ _ n⟩
          refine ⟨q, rfl, ⟨_, SqL.of eq⟩, for_it (walk_list (xs := ys)) (fun i σ H' => ∃ o6, σ = [some (.ref b), some (.ref g), some (.ref rp), some (.int (rs.length : Int)), o4, some (.ref a8), o6, none, none] ∧ FmT [] H9 H' ∧ Tabs Tb H')
            ⟨_, rfl, FmT.refl _ _, t9⟩ (fun i σ H' _ ⟨_, _, f, _⟩ => SqL.of (f.lst0 eq)) ?_ (fun σ H' ⟨o6, e, f, t⟩ => ⟨o6, e, (FmT.of f9).trans f.nil, t, B9.sameT f, G9.sameT f⟩)⟩
          rintro i x σ H1' H2' hi ⟨o6, rfl, f10, t10⟩ ⟨rfl, hx⟩
          obtain ⟨key, hkey, nk⟩ := n9 x (List.mem_of_getElem? hx)
          have G10 := G9.sameT f10
          have nk10 := f10.nk nk
          obtain ⟨p, rfl⟩ : ∃ p, x = .ref p := by
            simp only [newK, List.mem_cons, List.not_mem_nil, or_false] at hkey
            rcases hkey with rfl | rfl | rfl | rfl <;> (cases nk; exact ⟨_, rfl⟩)
          refine w_name ?_
          walk_at "rs rd"
          refine w_hd (Pa := fun a => a = aBig) t10 (fun H3 f3 t3 E Q' _ _ q3 => ?_) (fun a v H3 e A => ?_)
          · walk_at "rs rd"
            exact ⟨g, p, l, d, _, key, rfl, G10.sameT f3, f3.nk nk10, (by rw [hN]; exact new_ask key hkey), fun i' H' e _ _ => absurd (List.mem_of_getElem? e) (new_out hrow (by omega) h1 key hkey), fun _ z => absurd z (by omega), fun _ _ dd H2 hd hn' G2 f2' => q3 H2 dd (FmT.of f2') (tabs_fm0 t3 f2') rfl hd⟩
          · subst e
            obtain ⟨f11, t11, n11⟩ := A
            walk_at "rs rd"
            rename_i q12 hq12
            have f12 := FmT.new (o := .tup [.str "too large", .str "nodes", .int 3000]) hq12
            refine ⟨toPy aBig, toPy aBig, NK.dp _ _ (f12.nk n11), NK.dp aBig _ (.tup upd_same (.cons (.text _) (.cons (.text _) (.cons (.num _) .nil)))), goodB.shaped, goodB.shaped, ?_⟩
            rw [goodB.eqv]
            refine ⟨_, rfl, ?_⟩
            rw [if_neg (by decide)]
            have f13 := f11.trans f12
            have G13 := G10.sameT f13
            obtain ⟨dx, vs, hg1, _⟩ := id G13
            walk_at "rs rd"
            refine ⟨g, l, d, _, rfl, G13, ?_⟩
            walk_at "rs rd"
            refine w_iteN (fun z => absurd (by omega) z) (fun _ => ?_)
            exact w_next ⟨_, rfl, f10.trans f13, tabs_new t11 hq12⟩
        · rintro σ H9 ⟨o6, rfl, f9, t9, B9, G9⟩
          have eb8 : ∃ xs, H8 b = some (.lst xs) := by
            obtain ⟨_, _, _, _, h, _⟩ := B8
            exact ⟨_, h⟩
          have tp9 : ∀ a xs, H a = some (.tup xs) → H9 a = some (.tup xs) := fun a xs e => by
            have e1 := f18.tup (G.tp f1 (fun x hx => by
              simp only [List.mem_cons, List.not_mem_nil, or_false] at hx
              rcases hx with hx | hx
              · exact .inl hx
              · exact .inr (.inl hx)) a xs e) List.not_mem_nil
            obtain ⟨ys, ey⟩ := eb8
            exact f9.tup e1 (not_in1 fun z => by rw [z, ey] at e1; cases e1)
          have r9 : H9 rp = some (.lst rs) := f9.lst (f18.lst0 (f1 _ _ hrp (not_in2 n1 nrd))) (not_in1 n2)
          have k9 : NKs H9 L rs := NKs.mono tp9 _ _ hL'
          have F9 : FmT [b, l, d] H H9 := (fB.trans (f18.wide fun x hx => (List.not_mem_nil hx).elim)).trans (f9.wide fun x hx => by
            rw [List.mem_singleton] at hx
            subst hx
            exact List.mem_cons_self)
          clear fB tp9 f9 f18 f8 f5 t8 B8 G8 e8 hnk G1 B1 f1 t1
          walk_at "rs rd"
          refine ⟨b, c, _, rfl, by omega, by omega, B9, fun v H10 v0 v1 B10 f10 => ?_⟩
          have G10 := G9.bag B9 f10 n3 nbd
          have t10 : Tabs Tb H10 := tabs_fm t9 f10 B9.plain
          have r10 : H10 rp = some (.lst rs) := f10 _ _ r9 (not_in1 n2)
          have k10 : NKs H10 L rs := NKs.mono (B9.tp f10) _ _ k9
          have F10 : FmT [b, l, d] H H10 := F9.trans (FmT.of (f10.wide fun x hx => by
            rw [List.mem_singleton] at hx
            subst hx
            exact List.mem_cons_self))
          obtain ⟨j, rfl⟩ : ∃ j : Nat, v = (j : Int) := ⟨v.toNat, by omega⟩
          obtain ⟨key, hkey⟩ : ∃ key, L[j]? = some key := ⟨_, List.getElem?_eq_getElem (by omega)⟩
          obtain ⟨u, hu, nk⟩ := k10.get hkey
          have hkR := hrow key (List.mem_of_getElem? hkey)
          obtain ⟨p, rfl⟩ : ∃ p, u = .ref p := by
            obtain ⟨m, _, ⟨kk, _, rfl⟩ | ⟨o, ns, _, _, _, rfl⟩⟩ := hkR <;> (cases nk; exact ⟨_, rfl⟩)
          have inj : ∀ {i i' : Nat} {q : NestedKey}, (hL L (3000 - L.length))[i]? = some q → (hL L (3000 - L.length))[i']? = some q → i = i' := fun {i i' q} e e' => by
            obtain ⟨_, _, _, _, _, _, hnd, _⟩ := G9
            exact (List.getElem?_inj (List.getElem?_eq_some_iff.mp e).1 hnd).mp (e.trans e'.symm)
          have at1 : (hL L (3000 - L.length))[j]? = some key := (hL_old (List.getElem?_eq_some_iff.mp hkey).1).trans hkey
          have at2 : (hL L (3000 - L.length))[2999]? = some (hK 2998) := by
            have h := hL_new (L := L) (n := 3000 - L.length) (j := 2999 - L.length) (by omega)
            rw [show L.length + (2999 - L.length) = 2999 by omega, show (L.length : Int) - 1 + ((2999 - L.length : Nat) : Int) = 2998 by omega] at h
            exact h
          have at3 : (hL L (3000 - L.length))[L.length]? = some (hK ((rs.length : Int) - 1)) := by
            have h := hL_new (L := L) (n := 3000 - L.length) (j := 0) (by omega)
            rw [Nat.add_zero, show (L.length : Int) - 1 + ((0 : Nat) : Int) = (rs.length : Int) - 1 by omega] at h
            exact h
          have ask : AskK 3000 key := by
            obtain ⟨m, hm, ⟨kk, hkk, rfl⟩ | ⟨o, ns, _, _, hb, rfl⟩⟩ := hkR
            · refine .inl ⟨kk, rfl, ?_⟩
              have h : ∀ kk ∈ keysK, kk.depth ≤ 7 := by decide +kernel
              exact h kk hkk
            · exact .inr ⟨o, ns, rfl, fun n' hn' => ⟨(hb n' hn').1, by have := (hb n' hn').2; omega⟩⟩
          walk_at "rs rd"
          refine w_ixL (by walk_at "rs sq") (atI_nat hu) ?_
          walk_at "rs rd"
          refine ⟨g, p, l, d, _, key, rfl, G10, nk, (by rw [hN]; exact ask), fun i' H11 e G11 f11 => ?_, fun z => absurd (List.mem_of_getElem? at1) z, fun z => absurd (List.mem_of_getElem? at1) z⟩
          obtain rfl := inj at1 e
          obtain ⟨dx, vs, hg11, _⟩ := id G11
          walk_at "rs rd"
          rename_i p1 hp1
          refine ⟨g, l, d, p1, _, _, [2998], rfl, G11.same (Fm.new hp1), upd_same, fun ⟨n, hn, z⟩ => (by rw [List.mem_singleton] at hn; omega), fun _ => ⟨fun i' H12 e2 G12 f12 => ?_, fun z => absurd (List.mem_of_getElem? at2) z, fun z => absurd (List.mem_of_getElem? at2) z⟩⟩
          obtain rfl := inj at2 e2
          obtain ⟨dx2, vs2, hg12, _⟩ := id G12
          walk_at "rs rd"
          rename_i p2 hp2
          refine ⟨g, l, d, p2, _, _, [(rs.length : Int) - 1], rfl, G12.same (Fm.new hp2), upd_same, fun ⟨n, hn, z⟩ => (by rw [List.mem_singleton] at hn; omega), fun _ => ⟨fun i' H13 e3 G13 f13 => ?_, fun z => absurd (List.mem_of_getElem? at3) z, fun z => absurd (List.mem_of_getElem? at3) z⟩⟩
          obtain rfl := inj at3 e3
          have F13 : Fm [] H10 H13 := ((f11.thenNew hp1).trans (f12.thenNew hp2)).trans f13
          walk_at "rs rd"
          rename_i tl htl
          refine w_andV ?_
          walk_at "rs rd"
          rename_i t2 ht2
          have hj : j < L.length := (List.getElem?_eq_some_iff.mp hkey).1
          refine ⟨_, _, .list [.int (j : Int), .int ((2999 : Nat) : Int), .int (L.length : Int)], rfl, .lst (SqL.of (by walk_at "rs hp")) (.cons (.int _) (.cons (.int _) (.cons (.int _) .nil))), .lst (SqL.of upd_same) (.cons (.int _) (.cons (.int _) (.cons (by rw [hll]; exact .int _) .nil))),
            good3 (by omega) (by omega) (by omega), .inr (.inl ⟨_, rfl⟩), true, rfl, ?_⟩
          rw [if_pos rfl]
          have F14 : Fm [] H10 (upd (upd H13 tl (.lst [.int (j : Int), .int ((2999 : Nat) : Int), .int (L.length : Int)])) t2 (.lst [.int (j : Int), .int 2999, .int (rs.length : Int)])) := (F13.thenNew htl).thenNew ht2
          have G14 := G10.same F14
          obtain ⟨dx3, vs3, hg14, _⟩ := id G14
          have hLp := hL_shape (n := 3000 - L.length) hrow
          have hLs : ∀ k ∈ hL L (3000 - L.length), ∃ s b r, k = .tup (.text s :: b :: r) := fun k hk => by
            rcases hLp k hk with ⟨b, rfl⟩ | ⟨o, ps, rfl⟩
            · exact ⟨_, _, _, rfl⟩
            · exact ⟨_, _, _, rfl⟩
          have same : ∀ {i : Nat} {q : NestedKey}, (2999 : Int) = (i : Int) → (hL L (3000 - L.length))[i]? = some q → q = hK 2998 := fun {i q} e1 e2 => by
            obtain rfl : i = 2999 := by omega
            exact Option.some.inj (e2.symm.trans at2)
          have hin : ¬ ((2999 : Int) < 0 ∨ ((hL L (3000 - L.length)).length : Int) ≤ 2999) := by omega
          walk_at "rs rd"
          refine ⟨g, l, d, _, 2999, rfl, G14, hLs, fun i b' r v hn hk hv => ?_, fun i s b' r hn hk hs => ?_, fun z => absurd z hin⟩
          · have e := same hn hk
            unfold hK at e
            cases e
            cases hv
            walk_at "rs rd"
            refine ⟨g, l, d, _, 2999, rfl, G14, hLp, fun i b' hn hk => ?_, fun i o ps v hn hk hv => ?_, fun z => absurd z hin⟩
            · have e := same hn hk
              unfold hK at e
              cases e
            · have e := same hn hk
              unfold hK at e
              cases e
              walk_at "rs rd"
              rename_i s1 hs1 s2 hs2 s3 hs3
              have F17 := ((FmT.new (o := .lst [.str "h", v]) hs1).trans (FmT.new (o := .tup [.int 2998]) hs2)).trans (FmT.new (o := .lst [.str "h", .ref s2]) hs3)
              refine ⟨_, _, .list [.str "h", toPy (.tup [.num 2998])], rfl, .lst (SqL.of (by walk_at "rs hp")) (.cons (.str _) (.cons (NK.dp (.tup [.num 2998]) _ (F17.nk hv)) .nil)), .lst (SqL.of upd_same) (.cons (.str _) (.cons (NK.dp (.tup [.num 2998]) _ (.tup (by walk_at "rs hp") (.cons (.num _) .nil))) .nil)),
                goodE, .inr (.inl ⟨_, rfl⟩), ?_⟩
              exact k _ ((F10.trans (FmT.of F14.nil)).trans (F17.wide fun x hx => (List.not_mem_nil hx).elim)) (tabs_new (tabs_new (tabs_new (tabs_fm0 t10 F14) hs1) hs2) hs3)
          · have e := same hn hk
            unfold hK at e
            cases e
            exact absurd rfl hs
end
end Rs

set_option Elab.async false
set_option linter.all false
set_option maxRecDepth 100000
set_option maxHeartbeats 4000000
/-! law -/
namespace Rs
open PySem L2 PySem.Spec PyProof.Rows LamX
local macro_rules | `(tactic| walk_at "rs ne") => `(tactic| first | assumption | (apply Ne.symm; assumption) | (apply ne_n1; assumption; walk_at "rs hp") | (apply ne_n2; assumption; walk_at "rs hp"))
local macro_rules | `(tactic| walk_at "rs hp") => `(tactic| first | assumption | exact upd_same | (apply hp_ne; (walk_at "rs ne"); (walk_at "rs hp")))
local macro_rules | `(tactic| walk_at "rs sq") => `(tactic| first | assumption | (apply SqL.of; walk_at "rs hp") | (apply SqT.of; walk_at "rs hp"))
local macro_rules | `(tactic| walk_at "rs sz") => `(tactic| first | decide | (rw [sizeLine_eq]; simp; done) | (rw [sizeLine_eq]; simp; omega) | (rw [sizeLine_eq]; omega))
local macro_rules | `(tactic| walk_at "rs ar") => `(tactic| first | assumption | (show (0 : Int) < _; first | assumption | decide | omega) | exact Or.inr ⟨by decide, by decide⟩ | exact Or.inl ⟨by decide, by decide⟩ | exact Or.inl ⟨by omega, by omega⟩ | exact Or.inr ⟨by omega, by omega⟩ | exact ⟨by decide, by decide, by decide⟩ | exact ⟨by decide, by decide⟩ | exact ⟨by omega, by omega⟩)
local macro_rules | `(tactic| walk_at "rs r1") => `(tactic| with_reducible (first | refine w_var rfl ?_ | refine w_c ?_ | refine w_op ?_ | refine w_un ?_ | refine w_test ?_ | refine w_B ?_ | refine w_bool ?_ | refine w_not ?_ | refine w_cb ?_ | refine w_nil ?_ | refine w_cons ?_ | refine w_asg ?_ | refine w_name ?_ | refine w_seq ?_ | refine w_ret ?_ | refine w_drop ?_ | refine w_next ?_ | refine w_ifS ?_ | refine w_I0 ?_ | refine w_eqI ?_ | refine w_neI ?_ | refine w_int ?_ | refine w_abs ?_ | refine w_sl ?_ | refine w_part ?_ | refine w_intO ?_ | refine w_nopart ?_ | refine w_gsub ?_ | refine w_augS ?_ | refine w_ip ?_ | refine w_lst ?_ | refine w_tup ?_ | refine w_if ?_ | refine w_and ?_ | refine w_or ?_ | refine w_tfld ?_ | refine w_forL ?_ | refine w_forT ?_ | refine w_forR1 ?_ | refine w_forR2 ?_ | refine w_forE ?_ | refine w_lcL ?_ | refine w_lcR1 ?_ | refine w_bm ?_ | refine w_call ?_ | refine w_meth ?_ | refine w_nget ?_ | refine w_nin ?_ | refine w_nput ?_ | refine w_eqS ?_ | refine w_neS ?_))
local macro_rules | `(tactic| walk_at "rs r2") => `(tactic| first | (walk_at "rs r1") | ((with_reducible refine' w_ixL ?h1 ?h2 ?h3); (case h1 => walk_at "rs sq"); (case h2 => first | rfl | exact atI_nat (j := 0) rfl | exact atI_nat (j := 1) rfl | exact atI_nat (j := 2) rfl)) | ((with_reducible refine' w_ixT ?h1 ?h2 ?h3); (case h1 => walk_at "rs sq"); (case h2 => first | rfl | exact atI_nat (j := 0) rfl | exact atI_nat (j := 1) rfl | exact atI_nat (j := 2) rfl)) | ((with_reducible refine' w_cutL ?h1 ?_); (case h1 => walk_at "rs sq"); intro q hq) | ((with_reducible refine' w_cat ?h1 ?h2 ?h3 ?_); (case h1 => walk_at "rs hp"); (case h2 => walk_at "rs hp"); (case h3 => walk_at "rs sz"); intro q hq) | ((with_reducible refine' w_small ?h1 ?_); (case h1 => exact Nat.le_of_ble_eq_true rfl); intro q hq) | ((with_reducible refine' w_setL ?h1 ?h2 ?_); (case h1 => walk_at "rs hp"); (case h2 => rfl)) | ((with_reducible refine' w_getL ?h0 ?h1 ?h2 ?_); (case h0 => rfl); (case h1 => walk_at "rs sq"); (case h2 => rfl)) | ((with_reducible refine' w_lenL ?h1 ?_); (case h1 => walk_at "rs sq")) | ((with_reducible refine' w_lenT ?h1 ?_); (case h1 => walk_at "rs sq")) | ((with_reducible refine' w_fld ?h1 ?h2 ?h3 ?h4 ?_); (case h1 => assumption); (case h2 => assumption); (case h3 => walk_at "rs hp"); (case h4 => assumption)) | ((with_reducible refine' w_methAt ?h1 ?h2 ?_); (case h1 => walk_at "rs hp"); (case h2 => assumption)) | ((with_reducible refine' w_tyL ?h1 ?_); (case h1 => walk_at "rs sq")) | ((with_reducible refine' w_append ?h1 ?h2 ?_); (case h1 => walk_at "rs hp"); (case h2 => assumption)) | ((with_reducible refine' w_I ?h1 ?_); (case h1 => walk_at "rs ar")))
local macro_rules | `(tactic| walk_at "rs rd") => `(tactic| repeat (walk_at "rs r2"))
abbrev sLaw : Stmt := top 19
def spLaw (K : PySem.W.Frag) (T : List (Addr × Str)) : Sp := fun vs H Q _ => ∃ (a : Addr) (ns : List Int), vs = [.ref a] ∧ SqL K H a (ns.map V.int) ∧ ns.length ≤ 63 ∧ Tabs T H ∧ ∀ H', Q (.bl true) H'
structure LSt (P : Program) (w : World) (C b c g l d rp sp : Addr) (H : Hp) (Lg L : List NestedKey) (rs : List V) : Prop where
  bag : Bag H b c
  gr : GraphAt P w C H g l d Lg
  rows : H rp = some (.lst rs)
  nks : NKs H L rs
  spt : ND P w H sp (kvsOf L 0)
structure Ds (b c l d rp sp : Addr) : Prop where
  bl : b ≠ l
  cl : c ≠ l
  rb : rp ≠ b
  rc : rp ≠ c
  rl : rp ≠ l
  sd : sp ≠ d
section
variable {P : Program} {w : World} {C b c g l d rp sp a e : Addr} {H H' : Hp} {Lg L : List NestedKey} {rs xs : List V} {kvs : List (NestedKey × V)}
theorem lst_ne_nd (h : H a = some (.lst xs)) (x : ND P w H e kvs) : a ≠ e := by
  obtain ⟨es, h1, _⟩ := x
  exact ne_of h h1 fun z => ndo_lst z.symm
theorem Bag.bnd (B : Bag H b c) (x : ND P w H e kvs) : b ≠ e ∧ c ≠ e := by
  obtain ⟨_, _, _, _, h1, _, _, h2, _⟩ := B
  exact ⟨lst_ne_nd h1 x, lst_ne_nd h2 x⟩
theorem GraphAt.nd (x : GraphAt P w C H g l d L) : ND P w H d (kvsOf L 0) := by
  obtain ⟨_, _, _, _, _, h, _⟩ := x
  exact h
theorem GraphAt.ls (x : GraphAt P w C H g l d L) : ∃ vs, H l = some (.lst vs) := by
  obtain ⟨_, vs, _, h, _⟩ := x
  exact ⟨vs, h⟩
theorem GraphAt.ins (x : GraphAt P w C H g l d L) : ∃ dx fs, H g = some (.ins C dx fs) := by
  obtain ⟨dx, _, h, _⟩ := x
  exact ⟨dx, _, h⟩
theorem GraphAt.g_lst (x : GraphAt P w C H g l d L) (h : H a = some (.lst xs)) : g ≠ a := by
  obtain ⟨dx, fs, h1⟩ := x.ins
  exact ne_of h1 h fun z => nomatch z
theorem GraphAt.g_nd (x : GraphAt P w C H g l d L) (h : ND P w H e kvs) : g ≠ e := by
  obtain ⟨dx, fs, h1⟩ := x.ins
  obtain ⟨es, h2, _⟩ := h
  exact ne_of h1 h2 fun z => ndo_ins z.symm
theorem tup_ne_lst {t : Addr} {ys : List V} (e1 : H t = some (.tup ys)) (h : H a = some (.lst xs)) : t ≠ a := ne_of e1 h fun z => nomatch z
theorem tup_ne_nd {t : Addr} {ys : List V} (e1 : H t = some (.tup ys)) (h : ND P w H e kvs) : t ≠ e := by
  obtain ⟨es, h2, _⟩ := h
  exact ne_of e1 h2 fun z => ndo_tup z.symm
theorem GraphAt.tpA (x : GraphAt P w C H g l d L) (f : Fm [l, d] H H') : ∀ a xs, H a = some (.tup xs) → H' a = some (.tup xs) := x.tp f fun a ha => by
  simp only [List.mem_cons, List.not_mem_nil, or_false] at ha
  rcases ha with h | h
  · exact .inl h
  · exact .inr (.inl h)
theorem LSt.onB (x : LSt P w C b c g l d rp sp H Lg L rs) (D : Ds b c l d rp sp) (f : Fm [b] H H') (B : Bag H' b c) : LSt P w C b c g l d rp sp H' Lg L rs := by
  have tp := x.bag.tp f
  exact ⟨B, x.gr.bag x.bag f D.bl (x.bag.bnd x.gr.nd).1, f _ _ x.rows (not_in1 D.rb), NKs.mono tp _ _ x.nks, x.spt.frame (fun o e => f _ _ e (not_in1 (x.bag.bnd x.spt).1.symm)) tp⟩
theorem LSt.onNew (x : LSt P w C b c g l d rp sp H Lg L rs) (f : Fm [] H H') : LSt P w C b c g l d rp sp H' Lg L rs := by
  have tp : ∀ a xs, H a = some (.tup xs) → H' a = some (.tup xs) := fun a xs e => f _ _ e List.not_mem_nil
  exact ⟨x.bag.frame f List.not_mem_nil List.not_mem_nil, x.gr.same f, f _ _ x.rows List.not_mem_nil, NKs.mono tp _ _ x.nks, x.spt.frame (fun o e => f _ _ e List.not_mem_nil) tp⟩
theorem LSt.onAsk {Lg' : List NestedKey} (x : LSt P w C b c g l d rp sp H Lg L rs) (D : Ds b c l d rp sp) (f : Fm [l, d] H H') (G : GraphAt P w C H' g l d Lg') : LSt P w C b c g l d rp sp H' Lg' L rs := by
  have bd := x.bag.bnd x.gr.nd
  have tp := x.gr.tp f (fun a ha => by
    simp only [List.mem_cons, List.not_mem_nil, or_false] at ha
    rcases ha with h | h
    · exact .inl h
    · exact .inr (.inl h))
  obtain ⟨vs, hl⟩ := x.gr.ls
  exact ⟨x.bag.frame f (not_in2 D.bl bd.1) (not_in2 D.cl bd.2), G, f _ _ x.rows (not_in2 D.rl (lst_ne_nd x.rows x.gr.nd)), NKs.mono tp _ _ x.nks, x.spt.frame (fun o e => f _ _ e (not_in2 (lst_ne_nd hl x.spt).symm D.sd)) tp⟩
/-- spots[row] = .., rows.append(row) -/
theorem LSt.onPut {k : NestedKey} {v : V} {H4 : Hp} (x : LSt P w C b c g l d rp sp H Lg L rs) (D : Ds b c l d rp sp) (nk : NK H k v) (n4 : ND P w H4 sp (kvsOf (L ++ [k]) 0)) (h4 : ∀ a, a ≠ sp → H4 a = H a) :
    H4 rp = some (.lst rs) ∧ Fm [rp, sp] H (upd H4 rp (.lst (rs ++ [v]))) ∧ NK (upd H4 rp (.lst (rs ++ [v]))) k v ∧ LSt P w C b c g l d rp sp (upd H4 rp (.lst (rs ++ [v]))) Lg (L ++ [k]) (rs ++ [v]) := by
  have r4 : H4 rp = some (.lst rs) := (h4 rp (lst_ne_nd x.rows x.spt)).trans x.rows
  have f : Fm [rp, sp] H (upd H4 rp (.lst (rs ++ [v]))) := fun a o e n => by
    rw [upd_ne (fun z => n (by rw [z]; exact List.mem_cons_self)), h4 a (fun z => n (by rw [z]; exact List.mem_cons_of_mem _ List.mem_cons_self))]
    exact e
  have tp : ∀ a xs, H a = some (.tup xs) → upd H4 rp (.lst (rs ++ [v])) a = some (.tup xs) := fun a xs e => f _ _ e (not_in2 (tup_ne_lst e x.rows) (tup_ne_nd e x.spt))
  have nk' := NK.mono tp _ _ nk
  have bd := x.bag.bnd x.spt
  obtain ⟨vs, hl⟩ := x.gr.ls
  have hg := x.gr.g_lst x.rows
  refine ⟨r4, f, nk', x.bag.frame f (not_in2 D.rb.symm bd.1) (not_in2 D.rc.symm bd.2), x.gr.frame f (not_in2 hg (x.gr.g_nd x.spt)) (not_in2 D.rl.symm (lst_ne_nd hl x.spt)) (not_in2 (lst_ne_nd x.rows x.gr.nd).symm D.sd.symm) (fun a xs e => not_in2 (tup_ne_lst e x.rows) (tup_ne_nd e x.spt)), upd_same, NKs.snoc nk' (NKs.mono tp _ _ x.nks), ?_⟩
  refine n4.frame (fun o e => ?_) (fun a xs e => ?_)
  · rw [upd_ne (lst_ne_nd r4 n4).symm]
    exact e
  · rw [upd_ne (tup_ne_lst e r4)]
    exact e
end
theorem IsRow.deep {m : Nat} {k : NestedKey} (h : IsRow m k) : k.depth ≤ 8 := by
  obtain ⟨kk, hkk, rfl⟩ | ⟨o, ns, _, _, _, rfl⟩ := h
  · have h : ∀ kk ∈ keysK, kk.depth ≤ 7 := by decide +kernel
    exact nk_depth kk (h kk hkk)
  · exact op_depth o ns
theorem IsRow.ask {m : Nat} {k : NestedKey} (h : IsRow m k) : AskK m k := by
  obtain ⟨kk, hkk, rfl⟩ | ⟨o, ns, _, _, hb, rfl⟩ := h
  · have h : ∀ kk ∈ keysK, kk.depth ≤ 7 := by decide +kernel
    exact .inl ⟨kk, rfl, h kk hkk⟩
  · exact .inr ⟨o, ns, rfl, hb⟩
theorem AskK.wide {m n : Nat} {k : NestedKey} (h : AskK m k) (hmn : m ≤ n) : AskK n k := by
  obtain ⟨key, rfl, hd⟩ | ⟨o, ns, rfl, hb⟩ := h
  · exact .inl ⟨key, rfl, hd⟩
  · exact .inr ⟨o, ns, rfl, fun n' hn' => ⟨(hb n' hn').1, by have := (hb n' hn').2; omega⟩⟩
theorem IsRow.ok {m : Nat} {k : NestedKey} (h : IsRow m k) (hm : m ≤ 100) : okD (toPy k) = true := by
  obtain ⟨kk, hkk, rfl⟩ | ⟨o, ns, ho, _, hb, rfl⟩ := h
  · have h : (keysK.all fun kk => okD (toPy (.tup [.text "letter", kk]))) = true := by decide +kernel
    exact List.all_eq_true.mp h kk hkk
  · have hC : okD (.str o) = true := by
      have h : (opsS.all fun o => okD (.str o)) = true := by decide +kernel
      exact List.all_eq_true.mp h o ho
    have hA := okD_nums ns m hm hb
    show (okD (.str "op") && (okD (.str o) && (okDs (toPys (ns.map .num)) && true))) = true
    rw [hA, hC]
    decide +kernel
theorem IsRow.low {m : Nat} {k : NestedKey} (h : IsRow m k) : (toPy k).depth ≤ 20 := by
  obtain ⟨kk, hkk, rfl⟩ | ⟨o, ns, ho, hn, hb, rfl⟩ := h
  · have h : (keysK.all fun kk => decide ((toPy (.tup [.text "letter", kk])).depth ≤ 20)) = true := by decide +kernel
    exact of_decide_eq_true (List.all_eq_true.mp h kk hkk)
  · match ns, hn with
    | [], _ => exact Nat.le_of_ble_eq_true rfl
    | [a], _ => exact Nat.le_of_ble_eq_true rfl
    | [a, b], _ => exact Nat.le_of_ble_eq_true rfl
    | [a, b, c], _ => exact Nat.le_of_ble_eq_true rfl
theorem rows_ok : ∀ {L : List NestedKey}, (∀ k ∈ L, ∃ m ≤ 100, IsRow m k) → okDs (toPys L) = true
  | [], _ => rfl
  | k :: r, h => by
    obtain ⟨m, hm, hk⟩ := h k List.mem_cons_self
    show (okD (toPy k) && okDs (toPys r)) = true
    rw [hk.ok hm, rows_ok fun q hq => h q (List.mem_cons_of_mem _ hq)]
    rfl
theorem rows_low : ∀ {L : List NestedKey}, (∀ k ∈ L, ∃ m ≤ 100, IsRow m k) → (PyData.list (toPys L)).depth ≤ 21
  | [], _ => Nat.le_of_ble_eq_true rfl
  | k :: r, h => by
    obtain ⟨m, hm, hk⟩ := h k List.mem_cons_self
    have h1 := hk.low
    have h2 := rows_low (L := r) fun q hq => h q (List.mem_cons_of_mem _ hq)
    have h3 : (toPys r).length = (toPys r).length := rfl
    show max (PyData.depth (toPy k)) (PyData.depthAll (toPys r)) + 1 ≤ 21
    have h4 : PyData.depthAll (toPys r) + 1 ≤ 21 := h2
    omega
theorem eqv_nil : ∀ L : List NestedKey, PyData.eqv (.list (toPys L)) (.list []) = decide (L = [])
  | [] => rfl
  | k :: r => (show PyData.eqv (.list (toPys (k :: r))) (.list []) = false from rfl).trans (decide_eq_false (fun z => nomatch z)).symm
theorem pe_nnewP {X : Cx} {P : Program} {w : World} {pos : Pos} (hP : X.prog = P) (hw : X.w = w) : PE X (.Dict [] [] pos) (tNNew P w) := by
  subst hP hw
  exact pe_nnew
theorem good2i {a b : Int} (h1 : a.natAbs < 10 ^ 12) (h2 : b.natAbs < 10 ^ 12) : Good (.list [.int a, .int b]) := by
  refine ⟨?_, Nat.le_of_ble_eq_true rfl, Nat.le_of_ble_eq_true rfl⟩
  show (decide (a.natAbs < 10 ^ 12) && (decide (b.natAbs < 10 ^ 12) && true)) = true
  rw [decide_eq_true h1, decide_eq_true h2]
  rfl
def upTo (n : Nat) : List Int := (List.range n).map fun j : Nat => (j : Int)
theorem ints_len (n : Nat) : (upTo n).length = n := by simp [upTo]
theorem ints_succ (n : Nat) : upTo (n + 1) = upTo n ++ [(n : Int)] := by simp [upTo, List.range_succ]
theorem dp_ints {K : PySem.W.Frag} {H : Hp} : ∀ l : List Int, DpAll K H (l.map V.int) (l.map PyData.int)
  | [] => .nil
  | i :: r => .cons (.int i) (dp_ints r)
theorem ints_ok : ∀ l : List Int, (∀ z ∈ l, z.natAbs < 10 ^ 12) → okDs (l.map PyData.int) = true
  | [], _ => rfl
  | i :: r, h => by
    show (decide (i.natAbs < 10 ^ 12) && okDs (r.map PyData.int)) = true
    rw [ints_ok r fun z hz => h z (List.mem_cons_of_mem _ hz), decide_eq_true (h i List.mem_cons_self)]
    rfl
theorem ints_depth : ∀ l : List Int, PyData.depthAll (l.map PyData.int) = 0
  | [] => rfl
  | i :: r => by
    show max 0 (PyData.depthAll (r.map PyData.int)) = 0
    rw [ints_depth r]
    rfl
theorem ints_cnt : ∀ l : List Int, cnts (l.map PyData.int) = l.length
  | [] => rfl
  | i :: r => by
    show 1 + cnts (r.map PyData.int) = r.length + 1
    rw [ints_cnt r]
    omega
theorem good_ints (l : List Int) (h : ∀ z ∈ l, z.natAbs < 10 ^ 12) (hl : l.length ≤ 900) : Good (.list (l.map PyData.int)) :=
  ⟨ints_ok l h, (show PyData.depthAll (l.map PyData.int) + 1 ≤ 60 by rw [ints_depth]; decide), (show cnts (l.map PyData.int) + 1 ≤ 1000 by rw [ints_cnt]; omega)⟩
theorem not_in3 {x a b c : Addr} (h1 : x ≠ a) (h2 : x ≠ b) (h3 : x ≠ c) : x ∉ [a, b, c] := fun z => by
  simp only [List.mem_cons, List.not_mem_nil, or_false] at z
  rcases z with z | z | z
  · exact h1 z
  · exact h2 z
  · exact h3 z
theorem w_lstRg {te : L2.St → Hp → (Int → Int → Hp → Prop) → Prop} {σ : L2.St} {H : Hp} {Q : VK} (k : te σ H fun a b H1 => RgOk a b ∧ ∀ q, H1 q = none → Q (.ref q) (upd H1 q (.lst (rgV a b)))) : tLstRg te σ H Q := k
theorem w_rg1 {ta : TE} {σ : L2.St} {H : Hp} {Q : Int → Int → Hp → Prop} (k : ta σ H fun x H1 => ∃ n, x = .int n ∧ Q 0 n H1) : tRg1 ta σ H Q := k
theorem made_fm {H1 H2 : Hp} {g dx : Addr} {o u : HO} (hg : H1 g = none) (hdx : H1 dx = none) (f2 : Fm [g] (upd (upd H1 dx u) g o) H2) : Fm [] H1 H2 := fun a v e _ => f2 a v (by
  rw [upd_ne (ne_of_none e hg), upd_ne (ne_of_none e hdx)]
  exact e) (not_in1 (ne_of_none e hg))
theorem made_ne {H1 : Hp} {g dx l a : Addr} {o u v : HO} (hg : H1 g = none) (hdx : H1 dx = none) (h : upd (upd H1 dx u) g o l = none) (e : H1 a = some v) : a ≠ l := ne_of_none (show upd (upd H1 dx u) g o a = some v by
  rw [upd_ne (ne_of_none e hg), upd_ne (ne_of_none e hdx)]
  exact e) h
theorem not_in5 {x a b c d e : Addr} (h1 : x ≠ a) (h2 : x ≠ b) (h3 : x ≠ c) (h4 : x ≠ d) (h5 : x ≠ e) : x ∉ [a, b, c, d, e] := fun z => by
  simp only [List.mem_cons, List.not_mem_nil, or_false] at z
  rcases z with z | z | z | z | z
  · exact h1 z
  · exact h2 z
  · exact h3 z
  · exact h4 z
  · exact h5 z
theorem w_make {C : Addr} {sp : Sp} {dvs : List V} {E : XK} {t : TA} {σ : L2.St} {H : Hp} {Q : VK} (k : t σ H fun vs H1 => ∀ x dx, H1 x = none → H1 dx = none → dx ≠ x → sp (.ref x :: (vs ++ dvs)) (upd (upd H1 dx (.own x)) x (.ins C dx [])) (fun v H2 => v = .non ∧ Q (.ref x) H2) E) : tMake C sp dvs E t σ H Q := k
section
variable {P : Program} {w : World} {K : PySem.W.Frag} {mg : Str → Option Value} {base : Heap} {C CT fT CN : Addr}
theorem scLaw : FnScope ["script", "bag", "graph", "other", "rows", "spots", "turn", "row"] ["script"] (defScope sLaw) := ⟨rfl, rfl, rfl, by decide +kernel, rfl, by decide +kernel, by decide +kernel⟩
theorem ok_law {f fB fI fA fMa fTo fFi fTa fRo fSo fAs : Addr} {fd fdB fdI fdA fdMa fdTo fdFi fdTa fdRo fdSo fdAs : FuncData} {Tb : List (Addr × Str)} (F : Fun K "law" "law" sLaw f fd) (T : TxtG P K mg C CT fT CN) (mR : mg "range" = none) (mLi : mg "list" = none)
    (MG : Mk K C fI) (mG : mg "Graph" = some (.ref C)) (GI : FnOk P w K mg base CX0 1 fI fdI ["self"] (spInit P w C)) (bI : Binds K fdI ["self"] [])
    (GB : FnOk P w K mg base CX0 1 fB fdB ["script"] (spBag K)) (mB : mg "_law_bag" = some (.ref fB)) (kB : PySem.W.keepIn K (.ref fB) = true) (bB : Binds K fdB ["script"] [])
    (GA : FnG P w K mg base CX0 1 fA fdA ["found", "due"] (spAlike K)) (mA : mg "_law_alike" = some (.ref fA)) (kA : PySem.W.keepIn K (.ref fA) = true) (bA : Binds K fdA ["found", "due"] [])
    (GTo : FnG P w K mg base CX0 7 fTo fdTo ["graph", "rows"] (spTold P w C Tb)) (mTo : mg "_law_are_told" = some (.ref fTo)) (kTo : PySem.W.keepIn K (.ref fTo) = true) (bTo : Binds K fdTo ["graph", "rows"] [])
    (GFi : FnG P w K mg base CX0 8 fFi fdFi ["bag", "graph", "rows"] (spFilled P w C Tb)) (mFi : mg "_law_are_filled" = some (.ref fFi)) (kFi : PySem.W.keepIn K (.ref fFi) = true) (bFi : Binds K fdFi ["bag", "graph", "rows"] [])
    (GMa : FnOk P w K mg base CX0 1 fMa fdMa ["self"] (spMany P w C)) (bMa : Binds K fdMa ["self"] []) (mMa : Meth K C "many" fMa)
    (GTa : FnOk P w K mg base CX0 1 fTa fdTa ["bag", "many"] spTake) (mTa : mg "_law_take" = some (.ref fTa)) (kTa : PySem.W.keepIn K (.ref fTa) = true) (bTa : Binds K fdTa ["bag", "many"] [])
    (GRo : FnOk P w K mg base CX0 3 fRo fdRo ["bag", "many"] spRow) (mRo : mg "_law_row" = some (.ref fRo)) (kRo : PySem.W.keepIn K (.ref fRo) = true) (bRo : Binds K fdRo ["bag", "many"] [])
    (GSo : FnOk P w K mg base CX0 2 fSo fdSo ["bag", "things"] (spSome K)) (mSo : mg "_law_some" = some (.ref fSo)) (kSo : PySem.W.keepIn K (.ref fSo) = true) (bSo : Binds K fdSo ["bag", "things"] [])
    (GAs : FnOk P w K mg base (L2.CX P w) 5 fAs fdAs ["graph", "row"] (spAsked P w C CT)) (mAs : mg "_law_asked" = some (.ref fAs)) (kAs : PySem.W.keepIn K (.ref fAs) = true) (bAs : Binds K fdAs ["graph", "row"] []) :
    FnG P w K mg base CX0 9 f fd ["script"] (spLaw K Tb) := by
  refine okG F scLaw (fun vs H Q E h => ?_) (fun cdv A outer s H vs Q E hgd hr h => ?_)
  · obtain ⟨a, ns, rfl, _⟩ := h
    rfl
  · obtain ⟨a, ns, rfl, hs, hn, tabs, k⟩ := h
    have nd := scLaw.nd
    refine ⟨_, (pss_cons (ps_set (i := 1) nd rfl (Or.inl rfl) (pe_call (E := E0) GB (hr.mono (by decide)) rfl mB kB bB .nil pass0 (pa_cons (pv 0) pa_nil))) (pss_cons (ps_asg (pe_tup (pa_cons (pe_make0 MG GI (hr.mono (by decide)) rfl mG bI .nil pass0) (pa_cons (pe_make0 MG GI (hr.mono (by decide)) rfl mG bI .nil pass0) (pa_cons (pe_lst pa_nil) (pa_cons (pe_nnewP (P := P) (w := w) rfl rfl) pa_nil))))) (pg_tup rfl (pgs_cons (pg_name (i := 2) nd rfl (Or.inl rfl)) (pgs_cons (pg_name (i := 3) nd rfl (Or.inr rfl)) (pgs_cons (pg_name (i := 4) nd rfl (Or.inl rfl)) (pgs_cons (pg_name (i := 5) nd rfl (Or.inl rfl)) pgs_nil)))))) (Evl.pss_cut (ps_for PassesOwn.never rfl (pi_range1 rfl mR (pa_cons (pe_op op_add pe_int (pe_call (E := E0) GTa (hr.mono (by decide)) rfl mTa kTa bTa .nil pass0 (pa_cons (pv 1) (pa_cons pe_int pa_nil)))) pa_nil)) (pg_name (i := 6) nd rfl (Or.inl rfl)) (Evl.pss_cut (ps_set (i := 7) nd rfl (Or.inl rfl) (pe_ifExp (PW.pt (pw_or (pt_cmpR op_gt (pe_call (E := E0) GTa (hr.mono (by decide)) rfl mTa kTa bTa .nil pass0 (pa_cons (pv 1) (pa_cons pe_int pa_nil))) pe_int (nomark _)) (pw_or1 (pt_cmpR (op_eqD hr.units) (pv 4) (pe_lst pa_nil) (nomark _))))) (pe_call (E := E0) GRo (hr.mono (by decide)) rfl mRo kRo bRo .nil pass0 (pa_cons (pv 1) (pa_cons (pe_callB c_len (by rfl) T.len PySem.boot_len (pa_cons (pv 4) pa_nil)) pa_nil))) (pe_call (E := E0) GSo (hr.mono (by decide)) rfl mSo kSo bSo .nil pass0 (pa_cons (pv 1) (pa_cons (pv 4) pa_nil))))) (Evl.pss_cut (ps_if (pt_cmp (pc_nnotin hr.units (pv 7) (pv 5))) (pss_cons (ps_nput hr.units (pv 5) (pv 7) (pe_callB c_len (by rfl) T.len PySem.boot_len (pa_cons (pv 4) pa_nil)) (by rfl)) (pss_one (ps_expr (pe_bm PySem.F.plainAttrs_list PySem.F.slot_list_append PySem.F.type_list_append mt_append (pv 4) (pa_cons (pv 7) pa_nil))))) pss_nil) (pss_one (ps_if (pt_not (pt_val (pe_callG (E := E0) GA hgd (hr.mono (by decide)) rfl mA kA bA pass0 (pa_cons (pe_lst (pa_cons (pe_call (E := E0) GAs (hr.mono (by decide)) rfl mAs kAs bAs .nil (passes_call LamX.takes0 fun _ _ _ _ h => h) (pa_cons (pv 2) (pa_cons (pv 7) pa_nil))) (pa_cons (pe_meth0 (E := E0) (pv 2) T.cl mMa GMa (hr.mono (by decide)) bMa .nil pass0) pa_nil))) (pa_cons (pe_lst (pa_cons (pe_nget hr.units (pv 5) (pv 7) (fun _ _ => rfl)) (pa_cons (pe_callB c_len (by rfl) T.len PySem.boot_len (pa_cons (pv 4) pa_nil)) pa_nil))) pa_nil))))) (pss_one (ps_ret pe_bl)) pss_nil))))) (pss_cons (ps_if (PW.pt (pw_or (pt_not (pt_val (pe_callG (E := E0) GTo hgd (hr.mono (by decide)) rfl mTo kTo bTo pass0 (pa_cons (pv 2) (pa_cons (pv 4) pa_nil))))) (pw_or (pt_cmpR op_ne (pe_meth0 (E := E0) (pv 3) T.cl mMa GMa (hr.mono (by decide)) bMa .nil pass0) pe_int (nomark _)) (pw_or1 (pt_not (pt_val (pe_callG (E := E0) GFi hgd (hr.mono (by decide)) rfl mFi kFi bFi pass0 (pa_cons (pv 1) (pa_cons (pv 2) (pa_cons (pv 4) pa_nil)))))))))) (pss_one (ps_ret pe_bl)) pss_nil) (pss_one (ps_ret (pe_cmpR (op_eqD hr.units) (pe_lc (own := [("row", 7)]) (g := gName 7) (tt := tYes) rfl nd (pi_list (pv 4)) (blkOk_by (N := ["script", "bag", "graph", "other", "rows", "spots", "turn", "row"]) (sc := defScope sLaw) (by decide +kernel)) (fun _ _ _ _ _ => pg_name (i := 7) nd rfl (Or.inl rfl)) (fun _ _ _ _ _ => pts_nil) (fun _ _ _ _ _ => (pe_call (E := E0) GAs (hr.mono (by decide)) rfl mAs kAs bAs .nil (passes_call LamX.takes0 fun _ _ _ _ h => h) (pa_cons (pv 3) (pa_cons (pv 7) pa_nil))))) (pe_listRg rfl rfl mLi (prg_1 rfl mR (pe_callB c_len (by rfl) T.len PySem.boot_len (pa_cons (pv 4) pa_nil)))) (nomark _)))))))), ?_⟩
    have nMa : ∀ l d : Addr, (gf l d).lookup ("many" : Str) = none := fun l d => gf_no _ _ (by decide +kernel) (by decide +kernel)
    walk_at "rs rd"
    refine ⟨a, ns, rfl, hs, hn, fun b c H1 hb0 hc0 B1 f1 => ?_⟩
    walk_at "rs rd"
    refine w_make (w_nil fun g dx hg hdx hdg => ?_)
    refine ⟨g, dx, rfl, upd_same, fun l d H2 hl hd G2 f2 => ⟨rfl, ?_⟩⟩
    have F12 := made_fm hg hdx f2
    refine w_cons (w_make (w_nil fun og odx hog hodx hodg => ?_))
    refine ⟨og, odx, rfl, upd_same, fun ol od H3 hol hod O3 f3 => ⟨rfl, ?_⟩⟩
    have F23 := made_fm hog hodx f3
    walk_at "rs rd"
    rename_i rp hrp
    intro sp hsp nd0
    walk_at "rs rd"
    rename_i tp htp
    have F30 : Fm [] H3 (upd (upd (upd H3 rp (.lst [])) sp (NdO P w sp [])) tp (.tup [.ref g, .ref og, .ref rp, .ref sp])) := ((Fm.new hrp).thenNew hsp).thenNew htp
    obtain ⟨cur, seed, ix, ms, eb, _, _, ec, _⟩ := id B1
    obtain ⟨vl, el⟩ := G2.ls
    obtain ⟨vd, ed, _⟩ := G2.nd
    obtain ⟨vol, eol⟩ := O3.ls
    obtain ⟨vod, eod, _⟩ := O3.nd
    have eb2 := F12 _ _ eb List.not_mem_nil
    have ec2 := F12 _ _ ec List.not_mem_nil
    have ed3 := F23 _ _ ed List.not_mem_nil
    have fr : Fm [] H3 (upd H3 rp (.lst [])) := Fm.new hrp
    have D : Ds b c l d rp sp := ⟨made_ne hg hdx hl eb, made_ne hg hdx hl ec, (ne_of_none (F23 _ _ eb2 List.not_mem_nil) hrp).symm, (ne_of_none (F23 _ _ ec2 List.not_mem_nil) hrp).symm, (ne_of_none (F23 _ _ el List.not_mem_nil) hrp).symm, (ne_of_none (fr _ _ ed3 List.not_mem_nil) hsp).symm⟩
    have F10 := (F12.trans F23).trans F30
    have F20 := F23.trans F30
    have x0 : LSt P w C b c g l d rp sp (upd (upd (upd H3 rp (.lst [])) sp (NdO P w sp [])) tp (.tup [.ref g, .ref og, .ref rp, .ref sp])) [] [] [] :=
      ⟨B1.frame F10 List.not_mem_nil List.not_mem_nil, G2.same F20, by walk_at "rs hp", .nil, nd0.frame (fun o e => (Fm.new htp : Fm [] _ _) _ _ e List.not_mem_nil) (fun a xs e => (Fm.new htp : Fm [] _ _) _ _ e List.not_mem_nil)⟩
    have O0 := O3.same F30
    have n1 : b ≠ ol := made_ne hog hodx hol eb2
    have n2 : l ≠ ol := made_ne hog hodx hol el
    have n3 : ol ≠ rp := ne_of_none eol hrp
    have n4 : d ≠ od := made_ne hog hodx hod ed
    have n5 : od ≠ sp := ne_of_none (fr _ _ eod List.not_mem_nil) hsp
    have t0 : Tabs Tb (upd (upd (upd H3 rp (.lst [])) sp (NdO P w sp [])) tp (.tup [.ref g, .ref og, .ref rp, .ref sp])) := tabs_fm0 tabs (f1.trans F10)
    refine ⟨tp, _, rfl, SqT.of upd_same, rfl, ⟨_, _, rfl, w_name ⟨_, _, rfl, w_name ⟨_, _, rfl, w_name ⟨_, _, rfl, w_name ⟨rfl, ?_⟩⟩⟩⟩⟩⟩
    generalize upd (upd (upd H3 rp (.lst [])) sp (NdO P w sp [])) tp (.tup [.ref g, .ref og, .ref rp, .ref sp]) = H0 at x0 O0 t0 ⊢
    clear F10 F20 F30 F12 F23 fr nd0 htp hsp hrp eb ec el ed eol eod eb2 ec2 ed3 hol hod hl hd hg hdx hog hodx O3 G2 B1 f1 f2 f3 hs tabs hb0 hc0 hdg hodg
    obtain ⟨vl, el⟩ := x0.gr.ls
    obtain ⟨vol, eol⟩ := O0.ls
    obtain ⟨_, _, _, _, eb, _⟩ := id x0.bag
    have hog : og ∉ [b, rp, l, d, sp] := not_in5 (O0.g_lst eb) (O0.g_lst x0.rows) (O0.g_lst el) (O0.g_nd x0.gr.nd) (O0.g_nd x0.spt)
    have hol : ol ∉ [b, rp, l, d, sp] := not_in5 n1.symm n3 n2.symm (lst_ne_nd eol x0.gr.nd) (lst_ne_nd eol x0.spt)
    have hod : od ∉ [b, rp, l, d, sp] := not_in5 (lst_ne_nd eb O0.nd).symm (lst_ne_nd x0.rows O0.nd).symm (lst_ne_nd el O0.nd).symm n4.symm n5
    have htu : ∀ a xs, H0 a = some (.tup xs) → a ∉ [b, rp, l, d, sp] := fun a xs e => not_in5 (tup_ne_lst e eb) (tup_ne_lst e x0.rows) (tup_ne_lst e el) (tup_ne_nd e x0.gr.nd) (tup_ne_nd e x0.spt)
    have plS : Plain H0 [b, rp, l, d, sp] := fun a ha => by
      obtain ⟨_, ed, _⟩ := x0.gr.nd
      obtain ⟨_, es, _⟩ := x0.spt
      simp only [List.mem_cons, List.not_mem_nil, or_false] at ha
      rcases ha with rfl | rfl | rfl | rfl | rfl
      · exact plain_lst eb
      · exact plain_lst x0.rows
      · exact plain_lst el
      · exact plain_nd ed
      · exact plain_nd es
    clear eb el eol
    refine w_cut (M := fun σ H' => ∃ o6 o7 L rs, σ = [some (.ref a), some (.ref b), some (.ref g), some (.ref og), some (.ref rp), some (.ref sp), o6, o7] ∧ Fm [b, rp, l, d, sp] H0 H' ∧ LSt P w C b c g l d rp sp H' L L rs ∧ (∀ (i : Nat) (k : NestedKey), L[i]? = some k → IsRow i k) ∧ L.length ≤ 60 ∧ 0 < L.length) ?_ ?_
    · walk_at "rs rd"
      refine ⟨b, c, 40, rfl, by decide, by decide, x0.bag, fun v H1 v0 v1 B1 f1 => ?_⟩
      have x1 := x0.onB D f1 B1
      have F1 : Fm [b, rp, l, d, sp] H0 H1 := f1.wide fun x hx => by
        rw [List.mem_singleton] at hx
        subst hx
        exact List.mem_cons_self
      walk_at "rs rd"
      refine ⟨20 + v, rfl, by omega, by omega, for_it (walk_range (lo := 0) (n := (20 + v).toNat)) (fun i σ H' => ∃ o6 o7 L rs, σ = [some (.ref a), some (.ref b), some (.ref g), some (.ref og), some (.ref rp), some (.ref sp), o6, o7] ∧ Fm [b, rp, l, d, sp] H0 H' ∧ LSt P w C b c g l d rp sp H' L L rs ∧ (∀ (i : Nat) (k : NestedKey), L[i]? = some k → IsRow i k) ∧ L.length ≤ i ∧ (0 < i → 0 < L.length))
        ⟨_, _, [], [], rfl, F1, x1, fun i k e => (by simp at e), Nat.le_refl _, fun z => absurd z (Nat.lt_irrefl _)⟩ (fun _ _ _ _ _ => trivial) ?_ (fun σ H' ⟨o6, o7, L, rs, e, F, x, hr, hl, hp⟩ => ⟨o6, o7, L, rs, e, F, x, hr, by omega, hp (by omega)⟩)⟩
      rintro i x σ H2 H3 hi ⟨o6, o7, L, rs, rfl, F2, x2, hrow, hle, hpos⟩ ⟨rfl, rfl⟩
      have hrm : ∀ k ∈ L, ∃ m ≤ 100, IsRow m k := fun k hk => by
        obtain ⟨j, hj⟩ := List.getElem?_of_mem hk
        exact ⟨j, by have := (List.getElem?_eq_some_iff.mp hj).1; omega, hrow j k hj⟩
      have hll := x2.nks.len
      have bS : ∀ x ∈ [b], x ∈ [b, rp, l, d, sp] := fun x hx => by
        rw [List.mem_singleton] at hx
        subst hx
        exact List.mem_cons_self
      refine w_name ?_
      refine w_cut (M := fun σ H' => ∃ p k, σ = [some (.ref a), some (.ref b), some (.ref g), some (.ref og), some (.ref rp), some (.ref sp), some (.int (0 + (i : Int))), some (.ref p)] ∧ Fm [b, rp, l, d, sp] H0 H' ∧ LSt P w C b c g l d rp sp H' L L rs ∧ NK H' k (.ref p) ∧ (k ∈ L ∨ IsRow L.length k)) ?_ ?_
      · have new : ∀ H5, LSt P w C b c g l d rp sp H5 L L rs → Fm [b, rp, l, d, sp] H0 H5 → ∀ (Q : VK), (∀ p k H6, Fm [b, rp, l, d, sp] H0 H6 → LSt P w C b c g l d rp sp H6 L L rs → NK H6 k (.ref p) → (k ∈ L ∨ IsRow L.length k) → Q (.ref p) H6) → spRow [.ref b, .int (rs.length : Int)] H5 Q E0 := fun H5 x5 F5 Q q => by
          refine ⟨b, c, L.length, by rw [hll], by omega, x5.bag, fun p k H6 hk nk hp B6 f6 => ?_⟩
          exact q p k H6 (F5.trans (f6.wide bS)) (x5.onB D f6 B6) nk (.inr hk)
        have old : ∀ H5, LSt P w C b c g l d rp sp H5 L L rs → Fm [b, rp, l, d, sp] H0 H5 → L ≠ [] → ∀ (Q : VK), (∀ p k H6, Fm [b, rp, l, d, sp] H0 H6 → LSt P w C b c g l d rp sp H6 L L rs → NK H6 k (.ref p) → (k ∈ L ∨ IsRow L.length k) → Q (.ref p) H6) → spSome K [.ref b, .ref rp] H5 Q E0 := fun H5 x5 F5 hne Q q => by
          refine ⟨b, c, rp, rs, rfl, (fun z => hne (List.length_eq_zero_iff.mp (by rw [hll, z]; rfl))), by omega, D.rb, .inl (SqL.of x5.rows), x5.bag, fun v H6 hv B6 f6 => ?_⟩
          obtain ⟨k, hk, nk⟩ := x5.nks.mem hv
          obtain ⟨p, rfl⟩ : ∃ p, v = .ref p := by
            obtain ⟨m, _, ⟨kk, _, rfl⟩ | ⟨o, ns, _, _, _, rfl⟩⟩ := hrm k hk <;> (cases nk; exact ⟨_, rfl⟩)
          exact q p k H6 (F5.trans (f6.wide bS)) (x5.onB D f6 B6) (NK.mono (x5.bag.tp f6) _ _ nk) (.inl hk)
        have r2 := x2.rows
        walk_at "rs rd"
        refine ⟨b, c, 4, rfl, by decide, by decide, x2.bag, fun u H5 u0 u1 B5 f5 => ?_⟩
        have x5 := x2.onB D f5 B5
        have F5 := F2.trans (f5.wide bS)
        have r5 := x5.rows
        walk_at "rs rd"
        refine w_ite (fun z => ?_) (fun z => ?_)
        · rw [if_pos rfl]
          walk_at "rs rd"
          refine new H5 x5 F5 _ (fun p k H6 F6 x6 nk hk => ?_)
          walk_at "rs rd"
          exact ⟨p, k, rfl, F6, x6, nk, hk⟩
        · walk_at "rs rd"
          rename_i q hq
          have x6 := x5.onNew (Fm.new (o := .lst []) hq)
          have F6 : Fm [b, rp, l, d, sp] H0 (upd H5 q (.lst [])) := F5.thenNew hq
          have r6 := x6.rows
          have hlo := rows_low hrm
          refine ⟨.list (toPys L), .list [], .lst (SqL.of r6) (NKs.dp _ _ x6.nks), .lst (SqL.of upd_same) .nil, ?_, by decide +kernel, ?_⟩
          · unfold SeqAt.shaped
            rw [okD_lay (.list (toPys L)) (rows_ok hrm), decide_eq_true (show (PyData.list (toPys L)).depth ≤ 64 by omega)]
            rfl
          · rw [eqv_nil]
            refine w_bool ?_
            refine w_ite (fun z => ?_) (fun z => ?_)
            · walk_at "rs rd"
              refine new _ x6 F6 _ (fun p k H6 F6 x6 nk hk => ?_)
              walk_at "rs rd"
              exact ⟨p, k, rfl, F6, x6, nk, hk⟩
            · walk_at "rs rd"
              refine old _ x6 F6 z _ (fun p k H6 F6 x6 nk hk => ?_)
              walk_at "rs rd"
              exact ⟨p, k, rfl, F6, x6, nk, hk⟩
      · rintro σ H3 ⟨p, k, rfl, F3, x3, nk, hk⟩
        have hdeep : k.depth ≤ 8 := by
          rcases hk with hk | hk
          · obtain ⟨m, _, hm⟩ := hrm k hk
            exact hm.deep
          · exact hk.deep
        have r3 := x3.rows
        refine w_cut (M := fun σ H' => ∃ Lg L' rs' idx, σ = [some (.ref a), some (.ref b), some (.ref g), some (.ref og), some (.ref rp), some (.ref sp), some (.int (0 + (i : Int))), some (.ref p)] ∧ Fm [b, rp, l, d, sp] H0 H' ∧ LSt P w C b c g l d rp sp H' Lg L' rs' ∧ NK H' k (.ref p) ∧ L'[idx]? = some k ∧ (Lg = L' ∨ (L' = Lg ++ [k] ∧ k ∉ Lg ∧ idx = Lg.length)) ∧ (∀ (i : Nat) (k : NestedKey), L'[i]? = some k → IsRow i k) ∧ L'.length ≤ i + 1) ?_ ?_
        · walk_at "rs rd"
          refine ⟨sp, p, kvsOf L 0, k, rfl, rfl, x3.spt, nk, hdeep, ?_⟩
          by_cases hkL : k ∈ L
          · obtain ⟨j, hj⟩ := List.getElem?_of_mem hkL
            obtain ⟨_, _, _, _, _, _, hnd, _⟩ := x3.gr
            rw [if_pos rfl, kvsOf_at hnd hj]
            refine ⟨false, rfl, ?_⟩
            rw [if_neg (by decide)]
            exact w_next ⟨L, L, rs, j, rfl, F3, x3, nk, hj, .inl rfl, hrow, by omega⟩
          · rw [if_pos rfl, kvsOf_none hkL]
            refine ⟨true, rfl, ?_⟩
            rw [if_pos rfl]
            walk_at "rs rd"
            refine ⟨sp, p, kvsOf L 0, k, rfl, rfl, x3.spt, nk, hdeep, by rw [kvsOf_len, sizeLine_eq]; omega, fun H4 n4 h4 => ?_⟩
            rw [← hll, kvsOf_put hkL] at n4
            obtain ⟨r4, f4, nk4, x4⟩ := x3.onPut (v := .ref p) D nk n4 h4
            walk_at "rs rd"
            refine w_append r4 (by rw [sizeLine_eq]; omega) ?_
            have hkR := hk.resolve_left hkL
            exact ⟨L, L ++ [k], rs ++ [.ref p], L.length, rfl, F3.trans (f4.wide fun x hx => by
              simp only [List.mem_cons, List.not_mem_nil, or_false] at hx ⊢
              rcases hx with h | h
              · exact .inr (.inl h)
              · exact .inr (.inr (.inr (.inr h)))), x4, nk4, by simp, .inr ⟨rfl, hkL, rfl⟩, fun i' k' e => (by
              by_cases hi' : i' < L.length
              · rw [List.getElem?_append_left hi'] at e
                exact hrow i' k' e
              · have hlt := (List.getElem?_eq_some_iff.mp e).1
                rw [List.length_append, List.length_singleton] at hlt
                have he : i' = L.length := by omega
                subst he
                rw [List.getElem?_concat_length] at e
                cases e
                exact hkR), by rw [List.length_append, List.length_singleton]; omega⟩
        · rintro σ H5 ⟨Lg, L', rs', idx, rfl, F5, x5, nk5, hidx, hLg, hrow', hle'⟩
          have hll' := x5.nks.len
          have hask : AskK Lg.length k := by
            have h1 := (hrow' idx k hidx).ask
            rcases hLg with rfl | ⟨_, _, rfl⟩
            · exact h1.wide (Nat.le_of_lt (List.getElem?_eq_some_iff.mp hidx).1)
            · exact h1
          have hlg : Lg.length ≤ 3000 := by
            obtain ⟨_, _, _, _, _, _, _, _, h⟩ := x5.gr
            exact h
          have asked : ∀ Q : VK, (∀ H6, LSt P w C b c g l d rp sp H6 L' L' rs' → Fm [l, d] H5 H6 → Q (.int (idx : Int)) H6) → spAsked P w C CT [.ref g, .ref p] H5 Q E0 := fun Q q => by
            refine ⟨g, p, l, d, Lg, k, rfl, x5.gr, nk5, hask, fun i' H6 e G6 f6 => ?_, fun hn _ H6 G6 f6 => ?_, fun hn hfull => ?_⟩
            · rcases hLg with rfl | ⟨_, hn, _⟩
              · obtain ⟨_, _, _, _, _, _, hnd, _⟩ := x5.gr
                obtain rfl : i' = idx := (List.getElem?_inj (List.getElem?_eq_some_iff.mp e).1 hnd).mp (e.trans hidx.symm)
                exact q H6 (x5.onAsk D f6.nil G6) f6.nil
              · exact absurd (List.mem_of_getElem? e) hn
            · rcases hLg with rfl | ⟨rfl, _, rfl⟩
              · exact absurd (List.mem_of_getElem? hidx) hn
              · exact q H6 (x5.onAsk D f6 G6) f6
            · rcases hLg with rfl | ⟨rfl, _, rfl⟩
              · exact absurd (List.mem_of_getElem? hidx) hn
              · exact absurd (show Lg.length < 3000 by rw [List.length_append, List.length_singleton] at hle'; omega) hfull
          walk_at "rs rd"
          refine asked _ (fun H6 x6 f6 => ?_)
          obtain ⟨dx6, vs6, hg6, _⟩ := id x6.gr
          have nM1 := nMa l d
          have nk6 : NK H6 k (.ref p) := NK.mono (x5.gr.tpA f6) _ _ nk5
          have F6 : Fm [b, rp, l, d, sp] H0 H6 := F5.trans (f6.wide fun x hx => by
            simp only [List.mem_cons, List.not_mem_nil, or_false] at hx ⊢
            rcases hx with h | h
            · exact .inr (.inr (.inl h))
            · exact .inr (.inr (.inr (.inl h))))
          walk_at "rs rd"
          refine ⟨g, l, d, L', rfl, x6.gr, ?_⟩
          walk_at "rs rd"
          rename_i q1 hq1
          have f7 : Fm [] H6 (upd H6 q1 (.lst [.int (idx : Int), .int (L'.length : Int)])) := Fm.new hq1
          have x7 := x6.onNew f7
          have r7 := x7.rows
          obtain ⟨_, _, _, _, _, _, hnd, _⟩ := x6.gr
          refine ⟨sp, p, kvsOf L' 0, k, .int ((0 + idx : Nat) : Int), rfl, rfl, x7.spt, NK.mono (fun a xs e => f7 _ _ e List.not_mem_nil) _ _ nk6, hdeep, kvsOf_at hnd hidx, ?_⟩
          walk_at "rs rd"
          rename_i q2 hq2
          have hidl := (List.getElem?_eq_some_iff.mp hidx).1
          refine ⟨_, _, .list [.int (idx : Int), .int (L'.length : Int)], rfl, .lst (SqL.of (by walk_at "rs hp")) (.cons (.int _) (.cons (.int _) .nil)), .lst (SqL.of upd_same) (.cons (by rw [Nat.zero_add]; exact .int _) (.cons (by rw [hll']; exact .int _) .nil)), good2i (by omega) (by omega), .inr (.inl ⟨_, rfl⟩), true, rfl, ?_⟩
          rw [if_neg (by decide)]
          exact w_next ⟨_, _, L', rs', rfl, (F6.thenNew hq1).thenNew hq2, x7.onNew (Fm.new hq2), hrow', hle', fun _ => by omega⟩
    · rintro σ H1 ⟨o6, o7, L, rs, rfl, F1, x1, hrow, hle, hpos⟩
      have hrm : ∀ k ∈ L, ∃ m ≤ 100, IsRow m k := fun k hk => by
        obtain ⟨j, hj⟩ := List.getElem?_of_mem hk
        exact ⟨j, by have := (List.getElem?_eq_some_iff.mp hj).1; omega, hrow j k hj⟩
      have hll := x1.nks.len
      have t1 : Tabs Tb H1 := tabs_fm t0 F1 plS
      have O1 := O0.frame F1 hog hol hod htu
      walk_at "rs rd"
      refine ⟨g, rp, l, d, L, rs, rfl, x1.gr, x1.rows, x1.nks, by omega, hrm, t1, fun H2 f2 t2 => ?_⟩
      have O2 := O1.sameT f2
      obtain ⟨dx2, vs2, hg2, _⟩ := id O2
      have nM2 := nMa ol od
      walk_at "rs rd"
      rw [if_neg (by decide)]
      walk_at "rs rd"
      refine ⟨og, ol, od, [], rfl, O2, ?_⟩
      walk_at "rs rd"
      refine w_iteN (fun z => absurd rfl z) (fun _ => ?_)
      have B2 := x1.bag.sameT f2
      have G2 := x1.gr.sameT f2
      have r2 := f2.lst0 x1.rows
      have k2 := f2.nks x1.nks
      have sub3 : ∀ x ∈ [b, l, d], x ∈ [b, rp, l, d, sp] := fun x hx => by
        simp only [List.mem_cons, List.not_mem_nil, or_false] at hx ⊢
        rcases hx with h | h | h
        · exact .inl h
        · exact .inr (.inr (.inl h))
        · exact .inr (.inr (.inr (.inl h)))
      obtain ⟨vl2, el2⟩ := G2.ls
      obtain ⟨_, _, _, _, eb2, _⟩ := id B2
      have tu2 : ∀ a xs, H2 a = some (.tup xs) → a ∉ [b, l, d] := fun a xs e => not_in3 (tup_ne_lst e eb2) (tup_ne_lst e el2) (tup_ne_nd e G2.nd)
      walk_at "rs rd"
      refine ⟨b, c, g, rp, l, d, L, rs, rfl, B2, G2, r2, k2, hpos, by omega, hrm, t2, ⟨D.rl, D.rb, D.bl, D.cl⟩, fun H3 f3 t3 => ?_⟩
      have O3 := O2.frameT f3 (fun z => hog (sub3 _ z)) (fun z => hol (sub3 _ z)) (fun z => hod (sub3 _ z)) tu2
      have r3 := f3.lst r2 (not_in3 D.rb D.rl (lst_ne_nd r2 G2.nd))
      have k3 := NKs.mono (fun a xs e => f3.tup e (tu2 a xs e)) _ _ k2
      obtain ⟨_, _, _, _, _, _, hnd, _⟩ := id x1.gr
      walk_at "rs rd"
      rw [if_neg (by decide)]
      walk_at "rs rd"
      refine ⟨rp, rfl, ⟨_, SqL.of r3⟩, fun Dl hD => ?_⟩
      obtain ⟨_, eo3⟩ := O3.ls
      have hOD : ol ≠ Dl := ne_of_none eo3 hD
      have rO : rp ∉ [ol, od] := not_in2 n3.symm (lst_ne_nd r3 O3.nd)
      refine lc_it (walk_list (xs := rs)) (fun i H' => H' Dl = some (.lst ((upTo i).map V.int)) ∧ GraphAt P w C H' og ol od (L.take i) ∧ Fm [ol, od] H3 H')
        ⟨upd_same, O3.same (Fm.new hD), Fm.new hD⟩ (fun i H' _ ⟨_, _, f⟩ => SqL.of (f _ _ r3 rO)) ?_ ?_
      · rintro i x H4 H5 hi ⟨e4, O4, f4⟩ ⟨rfl, hx⟩
        have hiL : i < L.length := by omega
        have hkey : L[i]? = some L[i] := List.getElem?_eq_getElem hiL
        generalize L[i] = key at hkey
        obtain ⟨x', hx', nk⟩ := k3.get hkey
        rw [hx] at hx'
        obtain rfl : x = x' := Option.some.inj hx'
        have hkr := hrow i key hkey
        obtain ⟨p, rfl⟩ : ∃ p, x = .ref p := by
          obtain ⟨kk, _, rfl⟩ | ⟨o, ns, _, _, _, rfl⟩ := hkr <;> (cases nk; exact ⟨_, rfl⟩)
        have tl : (L.take i).length = i := by rw [List.length_take]; omega
        refine w_name ⟨rfl, w_yes ?_⟩
        walk_at "rs rd"
        have out : key ∉ L.take i := fun z => by
          obtain ⟨j, hj⟩ := List.getElem?_of_mem z
          have hji := (List.getElem?_eq_some_iff.mp hj).1
          rw [tl] at hji
          rw [List.getElem?_take_of_lt hji] at hj
          have := (List.getElem?_inj (List.getElem?_eq_some_iff.mp hj).1 hnd).mp (hj.trans hkey.symm)
          omega
        refine ⟨og, p, ol, od, L.take i, key, rfl, O4, NK.mono (O3.tpA f4) _ _ nk, (by rw [tl]; exact hkr.ask), fun i' H6 e _ _ => absurd (List.mem_of_getElem? e) out, fun _ _ H6 O6 f6 => ?_, fun _ z => absurd (by omega) z⟩
        obtain ⟨volX, eolX⟩ := O4.ls
        have e6 : H6 Dl = some (.lst ((upTo i).map V.int)) := f6 _ _ e4 (not_in2 hOD.symm (lst_ne_nd e4 O4.nd))
        refine ⟨_, e6, by rw [List.length_map, ints_len, sizeLine_eq]; omega, ?_, ?_, (f4.trans f6).thenOwn hD⟩
        · rw [tl, upd_same, ints_succ, List.map_append]
          rfl
        · have hD6 : Fm [Dl] H6 (upd H6 Dl (.lst ((upTo i).map V.int ++ [V.int ((L.take i).length : Int)]))) := Fm.put List.mem_cons_self
          have O6' : GraphAt P w C H6 og ol od (L.take (i + 1)) := by
            rw [List.take_succ, hkey]
            exact O6
          obtain ⟨vo6, eo6⟩ := O6'.ls
          exact O6'.frame hD6 (not_in1 (O6'.g_lst e6)) (not_in1 hOD) (not_in1 (lst_ne_nd e6 O6'.nd).symm) fun a xs e => not_in1 (tup_ne_lst e e6)
      · rintro H4 ⟨e4, O4, f4⟩
        have r4 := f4 _ _ r3 rO
        refine w_lstRg (w_rg1 ?_)
        walk_at "rs rd"
        refine ⟨RgOk.of_le (by decide) (by omega) (by decide) (by omega), fun q hq => ?_⟩
        have hrg : rgV 0 (rs.length : Int) = (upTo rs.length).map V.int := by
          unfold rgV upTo
          rw [List.map_map, Int.sub_zero, Int.toNat_natCast]
          exact List.map_congr_left fun j _ => by simp
        rw [hrg]
        have gd := good_ints (upTo rs.length) (fun z hz => by
          obtain ⟨j, hj, rfl⟩ := List.mem_map.mp hz
          have := List.mem_range.mp hj
          omega) (by rw [ints_len]; omega)
        refine ⟨_, _, .lst (SqL.of (by walk_at "rs hp")) (dp_ints _), .lst (SqL.of upd_same) (dp_ints _), gd.shaped, gd.shaped, ?_⟩
        rw [gd.eqv]
        exact k _
end
end Rs

set_option Elab.async false
set_option linter.all false
set_option maxRecDepth 100000
set_option maxHeartbeats 4000000
/-! the end of a law's row: no guard around, tables of code objects that grow -/
namespace Rs
open PySem L2 PySem.Spec PyProof.Rows LamX
section
variable {P : Program} {w : World} {K : PySem.W.Frag} {mg mb : Str → Option Value} {k : Nat} {fa a : Addr} {fd : FuncData} {x : Str} {sp : Sp} {s₁ : Shared} {vs : List Value} {ns : List Int} {cs : List (Addr × Addr)}
/-- what is known at the law's call -/
structure Start (P : Program) (w : World) (K : PySem.W.Frag) (mg mb : Str → Option Value) (s₁ : Shared) (a : Addr) (vs : List Value) (ns : List Int) (cs : List (Addr × Addr)) : Prop where
  known : K.In s₁.heap
  glob : s₁.heap.Ns mainGlobals mg
  blt : s₁.heap.Ns builtinsNs mb
  blb : ∀ x : Str, x ≠ "__name__" → mb x = bootBuiltins x
  lim : s₁.heap.NoLimit
  gens : s₁.gens = #[]
  emp : ∀ p ∈ cs, s₁.heap.get? p.2 = some { cls := .none, data := .fields #[] }
  off : ∀ p ∈ cs, K.lookup p.2 = none
  cd : ∀ p ∈ cs, PySem.W.CodeHd s₁.heap p.1 p.2
  bm : ∃ (b : Addr) (ob : Obj), mg "__builtins__" = some (.ref b) ∧ b ≠ builtinsNs ∧ s₁.heap.get? b = some ob ∧ ob.cls = .type "module" ∧ ob.dict = some builtinsNs ∧ ob.data = .plain
  script : s₁.heap.get? a = some { cls := .type "list", data := .seq vs.toArray }
  are : IntsAre vs ns
  len : ns.length ≤ sizeLine
def isT (cs : List (Addr × Addr)) (b : Addr) : Prop := ∃ p ∈ cs, p.2 = b
theorem Start.tab (S : Start P w K mg mb s₁ a vs ns cs) {b : Addr} (h : isT cs b) : s₁.heap.get? b = some { cls := .none, data := .fields #[] } := by
  obtain ⟨p, hp, rfl⟩ := h
  exact S.emp p hp
theorem Start.aT (S : Start P w K mg mb s₁ a vs ns cs) : ¬ isT cs a := fun h => by
  have e := S.tab h
  rw [S.script] at e
  have z : (Data.seq vs.toArray) = Data.fields #[] := congrArg Obj.data (Option.some.inj e)
  cases z
/-- the abstract heaps that the run may begin with: the tables, perhaps the script -/
structure Begin (P : Program) (w : World) (K : PySem.W.Frag) (s₁ : Shared) (a : Addr) (ns : List Int) (cs : List (Addr × Addr)) (H : Hp) : Prop where
  tabs : ∀ p ∈ cs, H p.2 = some (.tbl #[])
  only : ∀ b, H b = none ∨ isT cs b ∨ ∃ o xs, H b = some (.frz o (.lst xs))
  seq : SqL K H a (ns.map V.int)
  ok : HOk P w H s₁.heap
  few : ∀ b, H b ≠ none → b = a ∨ isT cs b
  own : H a ≠ none → K.lookup a = none
theorem runGT {H : Hp} (S : Start P w K mg mb s₁ a vs ns cs) (B : Begin P w K s₁ a ns cs H) (hr : Room k callerA)
    (F : ∀ base : Heap, K.In base → base.Ns mainGlobals mg → (∀ p ∈ cs, TabB base mg p.1 p.2) → FnG P w K mg base CX0 k fa fd [x] sp) (hbind : ∀ (s : Shared) (u : Value), BindsTo s fd ⟨[u], []⟩ [(x, u)])
    (hsp : ∀ H : Hp, (∀ p ∈ cs, H p.2 = some (.tbl #[])) → SqL K H a (ns.map V.int) → sp [.ref a] H (fun v _ => v = .bl true) fun _ _ _ => False) :
    codeAny (model P w) callerA (.call (.ref fa) ⟨[.ref a], []⟩) (fun r s' => r = .ok (.ret (.bool true)) ∧ OldK s₁.heap s'.heap ∧ s'.os = s₁.os ∧ AllBare s'.gens) s₁ := by
  have gone : ∀ {b : Addr} {o : Obj}, s₁.heap.get? b = some o → (∀ z, o.data ≠ .seq z) → o.data ≠ .fields #[] → H b = none := fun {b o} e h1 h2 => by
    cases q : H b with
    | none => rfl
    | some u =>
      rcases B.few b (by rw [q]; exact fun z => nomatch z) with rfl | t
      · rw [S.script] at e
        cases e
        exact absurd rfl (h1 _)
      · rw [S.tab t] at e
        cases e
        exact absurd rfl h2
  have kept : ∀ {b : Addr} {o : Obj}, s₁.heap.get? b = some o → H b = none → (hidT s₁.heap H).get? b = some o := fun e n => hidT_get e n
  have nsB : ∀ {b : Addr} {m : Str → Option Value}, s₁.heap.Ns b m → (hidT s₁.heap H).Ns b m := fun {b m} ⟨o, es, ep, e, d, r⟩ =>
    ⟨o, es, ep, kept e (gone e (fun z q => by rw [d] at q; cases q) (fun q => by rw [d] at q; cases q)), d, r⟩
  have kB : K.In (hidT s₁.heap H) := fun b o e => by
    refine kept (S.known b o e) ?_
    cases q : H b with
    | none => rfl
    | some u =>
      rcases B.few b (by rw [q]; exact fun z => nomatch z) with rfl | ⟨p, hp, rfl⟩
      · rw [B.own (by rw [q]; exact fun z => nomatch z)] at e
        cases e
      · rw [S.off p hp] at e
        cases e
  have mB : Mod K mg (hidT s₁.heap H) := ⟨kB, nsB S.glob, ⟨mb, nsB S.blt, S.blb⟩, let ⟨mc, h1, h2⟩ := S.lim; ⟨mc, nsB h1, h2⟩⟩
  have tB : ∀ p ∈ cs, TabB (hidT s₁.heap H) mg p.1 p.2 := fun p hp => by
    have hp' := S.emp p hp
    obtain ⟨og, esg, epg, eg, dg, _⟩ := S.glob
    refine ⟨?_, ?_, fun z => ?_⟩
    · obtain ⟨o, us, file, tf, flags, tg, inF, text, tt, e1, r1, r2, r3, rest⟩ := S.cd p hp
      refine ⟨o, us, file, tf, flags, tg, inF, text, tt, kept e1 (gone e1 (fun z q => ?_) fun q => ?_), r1, r2, r3, rest⟩
      · rw [r2] at q
        cases q
      · rw [r2] at q
        cases q
        simp at r3
    · obtain ⟨b, ob, b1, b2, b3, b4, b5, b6⟩ := S.bm
      refine ⟨b, ob, b1, b2, fun q => ?_, fun q => ?_, kept b3 (gone b3 (fun z q => ?_) fun q => ?_), b4, b5, b6⟩
      · rw [q, eg] at b3
        cases b3
        rw [dg] at b6
        cases b6
      · rw [q, hp'] at b3
        cases b3
        cases b6
      · rw [b6] at q
        cases q
      · rw [b6] at q
        cases q
    · rw [z, hp'] at eg
      cases eg
      cases dg
  have e0 : Env0 P w K mg (hidT s₁.heap H) callerA [] s₁ H := ⟨rfl, mB, fun b o e => of_hidT e, Nat.le_of_eq (hidT_size _ _), trivial, fun b hb => (List.not_mem_nil (show b ∈ ([] : List Addr) from hb)).elim, B.ok, .of_eq S.gens⟩
  refine codeAny_mono ((F _ kB (nsB S.glob) tB).goes callerA [] s₁ H ⟨[.ref a], []⟩ [.ref a] [.ref a] _ _ rfl hr e0 (hbind s₁ (.ref a)) (.cons rfl .nil) (hsp H B.tabs B.seq)) fun r s' h => ?_
  match r, h with
  | .error e, h => exact False.elim h
  | .ok .next, h => exact False.elim h
  | .ok .brk, h => exact False.elim h
  | .ok .cont, h => exact False.elim h
  | .ok (.ret u), h =>
    obtain ⟨v, H', os, bare, un, ok', ru, q⟩ := h
    have q' : v = .bl true := q
    subst q'
    obtain rfl : u = Value.bool true := ru
    have same : ∀ b o, ¬ isT cs b → s₁.heap.get? b = some o → s'.heap.get? b = some o := fun b o nb e => by
      rcases B.only b with z | z | ⟨ob, xs, z⟩
      · exact un.keep b o e z (fun y => (List.not_mem_nil (show b ∈ ([] : List Addr) from y)).elim) List.not_mem_nil
      · exact absurd z nb
      · obtain ⟨e1, _⟩ := B.ok b _ z
        obtain ⟨e2, _⟩ := ok' b _ (un.frzs b ob _ z)
        rw [e] at e1
        cases e1
        exact e2
    have more : ∀ p ∈ cs, ∃ us : Array Value, s'.heap.get? p.2 = some { cls := .none, data := .fields us } := fun p hp => by
      obtain ⟨us, z⟩ := un.tbls p.2 #[] (B.tabs p hp)
      exact ⟨_, ok' p.2 _ z⟩
    refine ⟨rfl, ⟨fun b o e => ?_, fun b o e => ?_⟩, os, bare⟩
    · by_cases t : isT cs b
      · obtain ⟨p, hp, rfl⟩ := t
        obtain ⟨us, hu⟩ := more p hp
        rw [S.emp p hp] at e
        cases e
        exact .inr (.inl ⟨((S.cd p hp).tab (S.emp p hp)).isCodeTable, rfl, #[], us, rfl, by rw [Array.empty_append]; exact hu⟩)
      · exact .inl (same b o t e)
    · by_cases t : isT cs b
      · obtain ⟨p, hp, rfl⟩ := t
        obtain ⟨us, hu⟩ := more p hp
        exact ⟨_, hu⟩
      · exact ⟨o, same b o t e⟩
open Classical in
theorem begin_at (S : Start P w K mg mb s₁ a vs ns cs) : ∃ H : Hp, Begin P w K s₁ a ns cs H := by
  have vi := vals_ints S.are
  have hl : (ns.map V.int).length ≤ sizeLine := by rw [List.length_map]; exact S.len
  have tOk : ∀ {H : Hp} {b : Addr}, isT cs b → ObjOk P w H s₁.heap b (.tbl #[]) := fun t => S.tab t
  cases hk : K.lookup a with
  | some o =>
    have e := S.known a o hk
    rw [S.script] at e
    cases e
    have vl := S.are.length
    refine ⟨fun b => if isT cs b then some (.tbl #[]) else none, fun p hp => if_pos ⟨p, hp, rfl⟩, fun b => ?_, .inr ⟨_, vs.toArray, _, hk, rfl, rfl, rfl, by rw [List.size_toArray, vl]; exact S.len, by simpa using vi⟩, fun b u z => ?_, fun b z => ?_, fun z => absurd (if_neg S.aT) z⟩
    · by_cases t : isT cs b
      · exact .inr (.inl t)
      · exact .inl (if_neg t)
    · by_cases t : isT cs b
      · have z' := (if_pos t).symm.trans z
        cases z'
        exact tOk t
      · have z' := (if_neg t).symm.trans z
        cases z'
    · by_cases t : isT cs b
      · exact .inr t
      · exact absurd (if_neg t) z
  | none =>
    refine ⟨fun b => if b = a then some (.frz { cls := .type "list", data := .seq vs.toArray } (.lst (ns.map V.int))) else if isT cs b then some (.tbl #[]) else none,
      fun p hp => (if_neg fun (z : p.2 = a) => S.aT ⟨p, hp, z⟩).trans (if_pos ⟨p, hp, rfl⟩), fun b => ?_, .inl (.inr ⟨{ cls := .type "list", data := .seq vs.toArray }, if_pos rfl⟩), fun b u z => ?_, fun b z => ?_, fun _ => hk⟩
    · by_cases hb : b = a
      · exact .inr (.inr ⟨_, _, if_pos hb⟩)
      · by_cases t : isT cs b
        · exact .inr (.inl t)
        · exact .inl ((if_neg hb).trans (if_neg t))
    · by_cases hb : b = a
      · have z' := (if_pos hb).symm.trans z
        cases z'
        subst hb
        exact ⟨S.script, hl, vs, _, vi, S.script⟩
      · have z1 := (if_neg hb).symm.trans z
        by_cases t : isT cs b
        · have z' := (if_pos t).symm.trans z1
          cases z'
          exact tOk t
        · have z' := (if_neg t).symm.trans z1
          cases z'
    · by_cases hb : b = a
      · exact .inl hb
      · by_cases t : isT cs b
        · exact .inr t
        · exact absurd ((if_neg hb).trans (if_neg t)) z
end
/-- a law's walk from the def's promise, tables of code objects given -/
def AtG (l : PySem.W.OpenLaw) (w : World) (K : PySem.W.Frag) (k n : Nat) (x : Str) (mg : Str → Option Value) (fa : Addr) (h : Heap) : Prop :=
  ∃ (fd : FuncData) (cs : List (Addr × Addr)) (sp : Sp), ((∀ p ∈ cs, h.get? p.2 = some { cls := .none, data := .fields #[] }) ∧ (∀ p ∈ cs, K.lookup p.2 = none) ∧ ∀ p ∈ cs, PySem.W.CodeHd h p.1 p.2) ∧ (∀ (s : Shared) (u : Value), BindsTo s fd ⟨[u], []⟩ [(x, u)]) ∧
    (∀ (H : Hp) (a : Addr) (ns : List Int), ns.length ≤ n → (∀ p ∈ cs, H p.2 = some (.tbl #[])) → SqL K H a (ns.map V.int) → sp [.ref a] H (fun v _ => v = .bl true) fun _ _ _ => False) ∧
    ∀ base : Heap, K.In base → base.Ns mainGlobals mg → (∀ p ∈ cs, TabB base mg p.1 p.2) → FnG l.prog w K mg base CX0 k fa fd [x] sp
theorem walkGT {l : PySem.W.OpenLaw} {n k : Nat} {q : Program} {loose : List Str} {XP : (Str → Option Value) → Heap → Prop} {YP : World → Heap → Prop} {d : DefRec} {K : Params → PySem.W.Frag} {x : Str}
    (hn : l.most = some n) (hn2 : n ≤ sizeLine) (hdf : d.params.defaults = []) (hr : Room k callerA) (hY : ∀ (w : World) (h : Heap), YP w h → (K w.params).In h)
    (F : ∀ (w : World) (mg : Str → Option Value) (fa : Addr) (h : Heap), YP w h → (K w.params).In h → h.Ns mainGlobals mg → mg d.name = some (.ref fa) → AtG l w (K w.params) k n x mg fa h) :
    PySem.W.WalkO q loose XP YP l.row.toRowW d [] (fun f vs => PySem.call f vs) := by
  refine Att.attach_call hn hdf fun w s₀ s₁ mg mb fa o pm cd doc a vs ns G Y ho hd hcd hmg hobj hints hlen hg => ?_
  obtain ⟨fd, cs, sp, ⟨h1, h2, h3⟩, hb, hsp, hF⟩ := F w mg fa _ Y (hY w _ Y) G.T.g hmg
  have S : Start l.prog w (K w.params) mg mb s₁ a vs ns cs := ⟨hY w _ Y, G.T.g, G.T.b, G.T.builtins, G.T.nolimit, hg, h1, h2, h3, G.T.bmain, hobj, hints, Nat.le_trans hlen hn2⟩
  obtain ⟨H, B⟩ := begin_at S
  exact runGT S B hr hF hb fun H hT hS => hsp H a ns hlen hT hS
end Rs

set_option Elab.async false
set_option linter.all false
set_option maxRecDepth 100000
set_option maxHeartbeats 4000000
/-! the facts of the written part, joined; the theorem -/
namespace Rs
open PySem L2 PySem.Spec PyProof.Rows PySem.W PySem.HandSPX LamX
theorem all_mk {w : World} {K : PySem.W.Frag} {h : Heap} {mg : Str → Option Value} {fa C CT CN fT RE fB fTa fSo fMi fA fHe fRo fAs fTo cTo PTo fFi cFi PFi fLa fI fMa fNu fLe fNo fHd fIs fKe fOp fPa : Addr} (X : K.In h) (G : h.Ns mainGlobals mg) (hfa : mg "law" = some (.ref fa))
    {odB anB odTa anTa odSo anSo odMi anMi odA anA odHe anHe odRo anRo odAs anAs odTo anTo odFi anFi odLa anLa odI anI odMa anMa odNu anNu odLe anLe odNo anNo odHd anHd odIs anIs odKe anKe odOp anOp odPa anPa odT anT cddT cldT ddT : Option Addr} {slB slTa slSo slMi slA slHe slRo slAs slTo slFi slLa slI slMa slNu slLe slNo slHd slIs slKe slOp slPa slT ccsT cslT : Array (Option Value)} {ocB kVB dcB pmB ctB cdB ocTa kVTa dcTa pmTa ctTa cdTa ocSo kVSo dcSo pmSo ctSo cdSo ocMi kVMi dcMi pmMi ctMi cdMi ocA kVA dcA pmA ctA cdA ocHe kVHe dcHe pmHe ctHe cdHe ocRo kVRo dcRo pmRo ctRo cdRo ocAs kVAs dcAs pmAs ctAs cdAs ocTo kVTo dcTo pmTo ctTo ocFi kVFi dcFi pmFi ctFi ocLa kVLa dcLa pmLa ctLa cdLa ocI kVI dcI pmI ctI cdI ocMa kVMa dcMa pmMa ctMa cdMa ocNu kVNu dcNu pmNu ctNu cdNu ocLe kVLe dcLe pmLe ctLe cdLe ocNo kVNo dcNo pmNo ctNo cdNo ocHd kVHd dcHd pmHd ctHd cdHd ocIs kVIs dcIs pmIs ctIs cdIs ocKe kVKe dcKe pmKe ctKe cdKe ocOp kVOp dcOp pmOp ctOp cdOp ocPa kVPa dcPa pmPa ctPa cdPa ocT dcT pmT ctT cclT clT : Value} {tM : Tok}
    {nmT qT fileT : Str} {NT cdaT ccT : Addr} {bsT subT : List Value} {snT : List Str} {abT : Bool} {colT : Option Bool} {m0 m1 m2 m3 m5 : Option Value} {vsT : Array Value} {tfT : Tok}
    (aB : PySem.W.nsIn K mainGlobals "_law_bag" = some (some (.ref fB)))
    (lB : K.lookup fB = some ⟨ocB, odB, .func (PySem.W.fnOf "_law_bag" "_law_bag" (defArgs sBag) (defBody sBag) (defScope sBag) .none kVB dcB pmB anB cdB ctB), slB⟩)
    (c_B : PySem.W.codeIn K cdB "_law_bag" = true)
    (kB : PySem.W.keepIn K (.ref fB) = true)
    (aTa : PySem.W.nsIn K mainGlobals "_law_take" = some (some (.ref fTa)))
    (lTa : K.lookup fTa = some ⟨ocTa, odTa, .func (PySem.W.fnOf "_law_take" "_law_take" (defArgs sTake) (defBody sTake) (defScope sTake) .none kVTa dcTa pmTa anTa cdTa ctTa), slTa⟩)
    (c_Ta : PySem.W.codeIn K cdTa "_law_take" = true)
    (kTa : PySem.W.keepIn K (.ref fTa) = true)
    (aSo : PySem.W.nsIn K mainGlobals "_law_some" = some (some (.ref fSo)))
    (lSo : K.lookup fSo = some ⟨ocSo, odSo, .func (PySem.W.fnOf "_law_some" "_law_some" (defArgs sSome) (defBody sSome) (defScope sSome) .none kVSo dcSo pmSo anSo cdSo ctSo), slSo⟩)
    (c_So : PySem.W.codeIn K cdSo "_law_some" = true)
    (kSo : PySem.W.keepIn K (.ref fSo) = true)
    (aMi : PySem.W.nsIn K mainGlobals "_law_mixed" = some (some (.ref fMi)))
    (lMi : K.lookup fMi = some ⟨ocMi, odMi, .func (PySem.W.fnOf "_law_mixed" "_law_mixed" (defArgs sMixed) (defBody sMixed) (defScope sMixed) .none kVMi dcMi pmMi anMi cdMi ctMi), slMi⟩)
    (c_Mi : PySem.W.codeIn K cdMi "_law_mixed" = true)
    (kMi : PySem.W.keepIn K (.ref fMi) = true)
    (aA : PySem.W.nsIn K mainGlobals "_law_alike" = some (some (.ref fA)))
    (lA : K.lookup fA = some ⟨ocA, odA, .func (PySem.W.fnOf "_law_alike" "_law_alike" (defArgs sAlike) (defBody sAlike) (defScope sAlike) .none kVA dcA pmA anA cdA ctA), slA⟩)
    (c_A : PySem.W.codeIn K cdA "_law_alike" = true)
    (kA : PySem.W.keepIn K (.ref fA) = true)
    (aHe : PySem.W.nsIn K mainGlobals "_law_heard" = some (some (.ref fHe)))
    (lHe : K.lookup fHe = some ⟨ocHe, odHe, .func (PySem.W.fnOf "_law_heard" "_law_heard" (defArgs sHeard) (defBody sHeard) (defScope sHeard) .none kVHe dcHe pmHe anHe cdHe ctHe), slHe⟩)
    (c_He : PySem.W.codeIn K cdHe "_law_heard" = true)
    (kHe : PySem.W.keepIn K (.ref fHe) = true)
    (aRo : PySem.W.nsIn K mainGlobals "_law_row" = some (some (.ref fRo)))
    (lRo : K.lookup fRo = some ⟨ocRo, odRo, .func (PySem.W.fnOf "_law_row" "_law_row" (defArgs sRow) (defBody sRow) (defScope sRow) .none kVRo dcRo pmRo anRo cdRo ctRo), slRo⟩)
    (c_Ro : PySem.W.codeIn K cdRo "_law_row" = true)
    (kRo : PySem.W.keepIn K (.ref fRo) = true)
    (aAs : PySem.W.nsIn K mainGlobals "_law_asked" = some (some (.ref fAs)))
    (lAs : K.lookup fAs = some ⟨ocAs, odAs, .func (PySem.W.fnOf "_law_asked" "_law_asked" (defArgs sAsked) (defBody sAsked) (defScope sAsked) .none kVAs dcAs pmAs anAs cdAs ctAs), slAs⟩)
    (c_As : PySem.W.codeIn K cdAs "_law_asked" = true)
    (kAs : PySem.W.keepIn K (.ref fAs) = true)
    (aTo : PySem.W.nsIn K mainGlobals "_law_are_told" = some (some (.ref fTo)))
    (lTo : K.lookup fTo = some ⟨ocTo, odTo, .func (PySem.W.fnOf "_law_are_told" "_law_are_told" (defArgs sTold) (defBody sTold) (defScope sTold) .none kVTo dcTo pmTo anTo (.ref cTo) ctTo), slTo⟩)
    (c_To : PySem.W.codeIn K (.ref cTo) "_law_are_told" = true)
    (kTo : PySem.W.keepIn K (.ref fTo) = true)
    (hTo : PySem.W.codeHdIn K cTo PTo = true)
    (oTo : K.lookup PTo = none)
    (eTo : h.get? PTo = some { cls := .none, data := .fields #[] })
    (aFi : PySem.W.nsIn K mainGlobals "_law_are_filled" = some (some (.ref fFi)))
    (lFi : K.lookup fFi = some ⟨ocFi, odFi, .func (PySem.W.fnOf "_law_are_filled" "_law_are_filled" (defArgs sFilled) (defBody sFilled) (defScope sFilled) .none kVFi dcFi pmFi anFi (.ref cFi) ctFi), slFi⟩)
    (c_Fi : PySem.W.codeIn K (.ref cFi) "_law_are_filled" = true)
    (kFi : PySem.W.keepIn K (.ref fFi) = true)
    (hFi : PySem.W.codeHdIn K cFi PFi = true)
    (oFi : K.lookup PFi = none)
    (eFi : h.get? PFi = some { cls := .none, data := .fields #[] })
    (aLa : PySem.W.nsIn K mainGlobals "law" = some (some (.ref fLa)))
    (lLa : K.lookup fLa = some ⟨ocLa, odLa, .func (PySem.W.fnOf "law" "law" (defArgs sLaw) (defBody sLaw) (defScope sLaw) .none kVLa dcLa pmLa anLa cdLa ctLa), slLa⟩)
    (c_La : PySem.W.codeIn K cdLa "law" = true)
    (kLa : PySem.W.keepIn K (.ref fLa) = true)
    (aC : PySem.W.nsIn K mainGlobals "Graph" = some (some (.ref C)))
    (aI : PySem.W.findIn K (.ref C) "__init__" = some (some (.ref fI)))
    (iI : PySem.W.isFn K (.ref fI) = true)
    (lI : K.lookup fI = some ⟨ocI, odI, .func (PySem.W.fnOf "__init__" "Graph.__init__" (defArgs (sG 0)) (defBody (sG 0)) (defScope (sG 0)) .none kVI dcI pmI anI cdI ctI), slI⟩)
    (c_I : PySem.W.codeIn K cdI "Graph.__init__" = true)
    (kI : PySem.W.keepIn K (.ref fI) = true)
    (aMa : PySem.W.findIn K (.ref C) "many" = some (some (.ref fMa)))
    (iMa : PySem.W.isFn K (.ref fMa) = true)
    (lMa : K.lookup fMa = some ⟨ocMa, odMa, .func (PySem.W.fnOf "many" "Graph.many" (defArgs (sG 1)) (defBody (sG 1)) (defScope (sG 1)) .none kVMa dcMa pmMa anMa cdMa ctMa), slMa⟩)
    (c_Ma : PySem.W.codeIn K cdMa "Graph.many" = true)
    (kMa : PySem.W.keepIn K (.ref fMa) = true)
    (aNu : PySem.W.findIn K (.ref C) "numbered" = some (some (.ref fNu)))
    (iNu : PySem.W.isFn K (.ref fNu) = true)
    (lNu : K.lookup fNu = some ⟨ocNu, odNu, .func (PySem.W.fnOf "numbered" "Graph.numbered" (defArgs (sG 2)) (defBody (sG 2)) (defScope (sG 2)) .none kVNu dcNu pmNu anNu cdNu ctNu), slNu⟩)
    (c_Nu : PySem.W.codeIn K cdNu "Graph.numbered" = true)
    (kNu : PySem.W.keepIn K (.ref fNu) = true)
    (aLe : PySem.W.findIn K (.ref C) "letter" = some (some (.ref fLe)))
    (iLe : PySem.W.isFn K (.ref fLe) = true)
    (lLe : K.lookup fLe = some ⟨ocLe, odLe, .func (PySem.W.fnOf "letter" "Graph.letter" (defArgs (sG 3)) (defBody (sG 3)) (defScope (sG 3)) .none kVLe dcLe pmLe anLe cdLe ctLe), slLe⟩)
    (c_Le : PySem.W.codeIn K cdLe "Graph.letter" = true)
    (kLe : PySem.W.keepIn K (.ref fLe) = true)
    (aNo : PySem.W.findIn K (.ref C) "node" = some (some (.ref fNo)))
    (iNo : PySem.W.isFn K (.ref fNo) = true)
    (lNo : K.lookup fNo = some ⟨ocNo, odNo, .func (PySem.W.fnOf "node" "Graph.node" (defArgs (sG 4)) (defBody (sG 4)) (defScope (sG 4)) .none kVNo dcNo pmNo anNo cdNo ctNo), slNo⟩)
    (c_No : PySem.W.codeIn K cdNo "Graph.node" = true)
    (kNo : PySem.W.keepIn K (.ref fNo) = true)
    (aHd : PySem.W.findIn K (.ref C) "head_of" = some (some (.ref fHd)))
    (iHd : PySem.W.isFn K (.ref fHd) = true)
    (lHd : K.lookup fHd = some ⟨ocHd, odHd, .func (PySem.W.fnOf "head_of" "Graph.head_of" (defArgs (sG 5)) (defBody (sG 5)) (defScope (sG 5)) .none kVHd dcHd pmHd anHd cdHd ctHd), slHd⟩)
    (c_Hd : PySem.W.codeIn K cdHd "Graph.head_of" = true)
    (kHd : PySem.W.keepIn K (.ref fHd) = true)
    (aIs : PySem.W.findIn K (.ref C) "is_letter" = some (some (.ref fIs)))
    (iIs : PySem.W.isFn K (.ref fIs) = true)
    (lIs : K.lookup fIs = some ⟨ocIs, odIs, .func (PySem.W.fnOf "is_letter" "Graph.is_letter" (defArgs (sG 6)) (defBody (sG 6)) (defScope (sG 6)) .none kVIs dcIs pmIs anIs cdIs ctIs), slIs⟩)
    (c_Is : PySem.W.codeIn K cdIs "Graph.is_letter" = true)
    (kIs : PySem.W.keepIn K (.ref fIs) = true)
    (aKe : PySem.W.findIn K (.ref C) "key_of" = some (some (.ref fKe)))
    (iKe : PySem.W.isFn K (.ref fKe) = true)
    (lKe : K.lookup fKe = some ⟨ocKe, odKe, .func (PySem.W.fnOf "key_of" "Graph.key_of" (defArgs (sG 7)) (defBody (sG 7)) (defScope (sG 7)) .none kVKe dcKe pmKe anKe cdKe ctKe), slKe⟩)
    (c_Ke : PySem.W.codeIn K cdKe "Graph.key_of" = true)
    (kKe : PySem.W.keepIn K (.ref fKe) = true)
    (aOp : PySem.W.findIn K (.ref C) "op_of" = some (some (.ref fOp)))
    (iOp : PySem.W.isFn K (.ref fOp) = true)
    (lOp : K.lookup fOp = some ⟨ocOp, odOp, .func (PySem.W.fnOf "op_of" "Graph.op_of" (defArgs (sG 8)) (defBody (sG 8)) (defScope (sG 8)) .none kVOp dcOp pmOp anOp cdOp ctOp), slOp⟩)
    (c_Op : PySem.W.codeIn K cdOp "Graph.op_of" = true)
    (kOp : PySem.W.keepIn K (.ref fOp) = true)
    (aPa : PySem.W.findIn K (.ref C) "parts_of" = some (some (.ref fPa)))
    (iPa : PySem.W.isFn K (.ref fPa) = true)
    (lPa : K.lookup fPa = some ⟨ocPa, odPa, .func (PySem.W.fnOf "parts_of" "Graph.parts_of" (defArgs (sG 9)) (defBody (sG 9)) (defScope (sG 9)) .none kVPa dcPa pmPa anPa cdPa ctPa), slPa⟩)
    (c_Pa : PySem.W.codeIn K cdPa "Graph.parts_of" = true)
    (kPa : PySem.W.keepIn K (.ref fPa) = true)
    (pg : PySem.W.plainGet K C Str.empty = true)
    (hd : PySem.W.hasDictIn K C = true)
    (po : PySem.W.plainOver K C = true)
    (sa : PySem.W.findIn K (.ref C) "__setattr__" = some (some (.builtin "object.__setattr__")))
    (mk : PySem.W.makesIn K C = true)
    (kc : PySem.W.keepIn K (.ref C) = true)
    (nH : PySem.W.findIn K (.ref C) "heads" = some none)
    (nK : PySem.W.findIn K (.ref C) "known_heads" = some none)
    (z_len : PySem.W.nsIn K mainGlobals "len" = some none)
    (z_tuple : PySem.W.nsIn K mainGlobals "tuple" = some none)
    (z_range : PySem.W.nsIn K mainGlobals "range" = some none)
    (z_enumerate : PySem.W.nsIn K mainGlobals "enumerate" = some none)
    (z_repr : PySem.W.nsIn K mainGlobals "repr" = some none)
    (z_int : PySem.W.nsIn K mainGlobals "int" = some none)
    (z_abs : PySem.W.nsIn K mainGlobals "abs" = some none)
    (z_list : PySem.W.nsIn K mainGlobals "list" = some none)
    (z_super : PySem.W.nsIn K mainGlobals "super" = some none)
    (mo : PySem.W.nsIn K mainGlobals "MOST_NODES" = some (some (.int 3000 tM)))
    (aN : PySem.W.nsIn K mainGlobals "Nothing" = some (some (.ref CN)))
    (xN : PySem.W.excIn K CN [.type "ValueError", .type "Exception", .type "BaseException", .type "object"] "ValueError.__new__" = true)
    (kN : PySem.W.keepIn K (.ref CN) = true)
    (sN : PySem.W.subIn K (.ref CN) (.type "BaseException") = some true)
    (tN : PySem.W.typeIn K (.ref CN) = some (.type "type"))
    (aT : PySem.W.nsIn K mainGlobals "TooLarge" = some (some (.ref CT)))
    (xT : K.lookup CT = some (excClassObj nmT qT CT NT bsT [.ref RE, .type "ValueError", .type "Exception", .type "BaseException", .type "object"] true snT subT abT colT ddT m0 m1 m2 m3 m5 "ValueError.__new__"))
    (rT : refsVE [.ref RE, .type "ValueError", .type "Exception", .type "BaseException", .type "object"] = true)
    (gT : PySem.W.alongIn K "__init__" [.ref RE, .type "ValueError", .type "Exception", .type "BaseException", .type "object"] = some (some (.builtin "ValueError.__init__")))
    (saT : PySem.W.findIn K (.ref CT) "__setattr__" = some (some (.builtin "object.__setattr__")))
    (gaT : PySem.W.findIn K (.ref CT) "__getattribute__" = some (some (.builtin "BaseException.__getattribute__")))
    (ggT : PySem.W.findIn K (.ref CT) "__getattr__" = some none)
    (nWT : PySem.W.findIn K (.ref CT) "what" = some none)
    (nLT : PySem.W.findIn K (.ref CT) "limit" = some none)
    (iT : PySem.W.findIn K (.ref CT) "__init__" = some (some (.ref fT)))
    (tT : PySem.W.typeIn K (.ref fT) = some (.type "function"))
    (kT : PySem.W.keepIn K (.ref CT) = true)
    (eT : PySem.W.subIn K (.ref CT) (.type "BaseException") = some true)
    (vT : PySem.W.subIn K (.ref CT) (.type "ValueError") = some true)
    (yT : PySem.W.typeIn K (.ref CT) = some (.type "type"))
    (dT : PySem.W.hasDictIn K CT = true)
    (mT : mroIn K CT (.ref CT) = some true)
    (stT : PySem.W.nsIn K cStatics "thirdparty.any" = some none)
    (xTT : PySem.W.exmOne K (.ref CT) (.ref CT) = some true)
    (xNT : PySem.W.exmOne K (.ref CN) (.ref CT) = some false)
    (xNN : PySem.W.exmOne K (.ref CN) (.ref CN) = some true)
    (lT : K.lookup fT = some ⟨ocT, odT, .func (ksFn "__init__" "TooLarge.__init__" (defArgs sTL) (defBody sTL) (defScope sTL) .none .none dcT pmT anT (.ref cdaT) ctT ccT), slT⟩)
    (c_T : PySem.W.codeIn K (.ref cdaT) "TooLarge.__init__" = true)
    (lcT : K.lookup cdaT = some ⟨cclT, cddT, .fields vsT, ccsT⟩)
    (fiT : vsT[2]? = some (.str fileT tfT))
    (ffT : ((((PySem.Challenge.rw_runshown_k20_graphs_of_terms).prog).main.file : Str) == fileT) = true)
    (lcc : K.lookup ccT = some ⟨clT, cldT, .cell (some (.ref CT)), cslT⟩)
    (tpT : (((PySem.Challenge.rw_runshown_k20_graphs_of_terms).prog).main.scope.names.lookup ("super" : Str)).isSome = false)
    (neP : PTo ≠ PFi)
    : AtG PySem.Challenge.rw_runshown_k20_graphs_of_terms w K 9 63 "script" mg fa h := by
  have e := hfa.symm.trans (PySem.W.mg_of X G aLa)
  cases e
  have FB := fun_mk (st := sBag) lB c_B kB
  have bB := FB.binds (ps := ["script"]) fun _ _ _ _ _ _ us hl => match us, hl with | [_], _ => rfl
  have FTa := fun_mk (st := sTake) lTa c_Ta kTa
  have bTa := FTa.binds (ps := ["bag", "many"]) fun _ _ _ _ _ _ us hl => match us, hl with | [_, _], _ => rfl
  have FSo := fun_mk (st := sSome) lSo c_So kSo
  have bSo := FSo.binds (ps := ["bag", "things"]) fun _ _ _ _ _ _ us hl => match us, hl with | [_, _], _ => rfl
  have FMi := fun_mk (st := sMixed) lMi c_Mi kMi
  have bMi := FMi.binds (ps := ["bag", "things"]) fun _ _ _ _ _ _ us hl => match us, hl with | [_, _], _ => rfl
  have FA := fun_mk (st := sAlike) lA c_A kA
  have bA := FA.binds (ps := ["found", "due"]) fun _ _ _ _ _ _ us hl => match us, hl with | [_, _], _ => rfl
  have FHe := fun_mk (st := sHeard) lHe c_He kHe
  have bHe := FHe.binds (ps := ["act"]) fun _ _ _ _ _ _ us hl => match us, hl with | [_], _ => rfl
  have FRo := fun_mk (st := sRow) lRo c_Ro kRo
  have bRo := FRo.binds (ps := ["bag", "many"]) fun _ _ _ _ _ _ us hl => match us, hl with | [_, _], _ => rfl
  have FAs := fun_mk (st := sAsked) lAs c_As kAs
  have bAs := FAs.binds (ps := ["graph", "row"]) fun _ _ _ _ _ _ us hl => match us, hl with | [_, _], _ => rfl
  have FLa := fun_mk (st := sLaw) lLa c_La kLa
  have FI := fun_mk (st := sG 0) lI c_I kI
  have bI := FI.binds (ps := ["self"]) fun _ _ _ _ _ _ us hl => match us, hl with | [_], _ => rfl
  have mI : Meth K C "__init__" fI := ⟨aI, iI, kI⟩
  have FMa := fun_mk (st := sG 1) lMa c_Ma kMa
  have bMa := FMa.binds (ps := ["self"]) fun _ _ _ _ _ _ us hl => match us, hl with | [_], _ => rfl
  have mMa : Meth K C "many" fMa := ⟨aMa, iMa, kMa⟩
  have FNu := fun_mk (st := sG 2) lNu c_Nu kNu
  have bNu := FNu.binds (ps := ["self", "head"]) fun _ _ _ _ _ _ us hl => match us, hl with | [_, _], _ => rfl
  have mNu : Meth K C "numbered" fNu := ⟨aNu, iNu, kNu⟩
  have FLe := fun_mk (st := sG 3) lLe c_Le kLe
  have bLe := FLe.binds (ps := ["self", "key"]) fun _ _ _ _ _ _ us hl => match us, hl with | [_, _], _ => rfl
  have mLe : Meth K C "letter" fLe := ⟨aLe, iLe, kLe⟩
  have FNo := fun_mk (st := sG 4) lNo c_No kNo
  have bNo := FNo.binds (ps := ["self", "op", "parts"]) fun _ _ _ _ _ _ us hl => match us, hl with | [_, _, _], _ => rfl
  have mNo : Meth K C "node" fNo := ⟨aNo, iNo, kNo⟩
  have FHd := fun_mk (st := sG 5) lHd c_Hd kHd
  have bHd := FHd.binds (ps := ["self", "n"]) fun _ _ _ _ _ _ us hl => match us, hl with | [_, _], _ => rfl
  have mHd : Meth K C "head_of" fHd := ⟨aHd, iHd, kHd⟩
  have FIs := fun_mk (st := sG 6) lIs c_Is kIs
  have bIs := FIs.binds (ps := ["self", "n"]) fun _ _ _ _ _ _ us hl => match us, hl with | [_, _], _ => rfl
  have mIs : Meth K C "is_letter" fIs := ⟨aIs, iIs, kIs⟩
  have FKe := fun_mk (st := sG 7) lKe c_Ke kKe
  have bKe := FKe.binds (ps := ["self", "n"]) fun _ _ _ _ _ _ us hl => match us, hl with | [_, _], _ => rfl
  have mKe : Meth K C "key_of" fKe := ⟨aKe, iKe, kKe⟩
  have FOp := fun_mk (st := sG 8) lOp c_Op kOp
  have bOp := FOp.binds (ps := ["self", "n"]) fun _ _ _ _ _ _ us hl => match us, hl with | [_, _], _ => rfl
  have mOp : Meth K C "op_of" fOp := ⟨aOp, iOp, kOp⟩
  have FPa := fun_mk (st := sG 9) lPa c_Pa kPa
  have bPa := FPa.binds (ps := ["self", "n"]) fun _ _ _ _ _ _ us hl => match us, hl with | [_, _], _ => rfl
  have mPa : Meth K C "parts_of" fPa := ⟨aPa, iPa, kPa⟩
  have FTo : FunC K "_law_are_told" "_law_are_told" sTold fTo _ cTo := ⟨⟨ocTo, odTo, kVTo, dcTo, pmTo, anTo, ctTo, slTo, rfl, lTo, c_To⟩⟩
  have GTo := fun_mk (st := sTold) lTo c_To kTo
  have bTo := GTo.binds (ps := ["graph", "rows"]) fun _ _ _ _ _ _ us hl => match us, hl with | [_, _], _ => rfl
  have FFi : FunC K "_law_are_filled" "_law_are_filled" sFilled fFi _ cFi := ⟨⟨ocFi, odFi, kVFi, dcFi, pmFi, anFi, ctFi, slFi, rfl, lFi, c_Fi⟩⟩
  have GFi := fun_mk (st := sFilled) lFi c_Fi kFi
  have bFi := GFi.binds (ps := ["bag", "graph", "rows"]) fun _ _ _ _ _ _ us hl => match us, hl with | [_, _, _], _ => rfl
  have T : TxtG ((PySem.Challenge.rw_runshown_k20_graphs_of_terms).prog) K mg C CT fT CN := ⟨⟨pg, hd, po, sa⟩, nH, nK, PySem.W.mg_none_of X G z_len, PySem.W.mg_none_of X G z_tuple, .inr ⟨tM, PySem.W.mg_of X G mo⟩,
    ⟨PySem.W.mg_of X G aT, PySem.W.mg_none_of X G z_super, tpT, ⟨nmT, qT, NT, bsT, _, snT, subT, abT, colT, ddT, m0, m1, m2, m3, m5, xT, rT, gT⟩, saT, gaT, ggT, nWT, nLT, iT, tT, kT, eT, vT, yT, dT, xTT, mT, stT, ⟨ocT, odT, dcT, pmT, anT, cdaT, ccT, ctT, slT, cclT, clT, cddT, cldT, ccsT, cslT, vsT, fileT, tfT, lT, c_T, lcT, fiT, ffT, lcc⟩⟩,
    PySem.W.mg_of X G aN, xN, kN, sN, tN⟩
  have TH : TxtH K mg CT CN := ⟨PySem.W.mg_of X G aT, PySem.W.mg_of X G aN, ⟨gaT, ggT, eT, dT⟩, nWT, nLT, xTT, xNT, xNN⟩
  have TB : TxtB K mg := ⟨PySem.W.mg_none_of X G z_int, PySem.W.mg_none_of X G z_len⟩
  have hne : PTo ≠ PFi := fun z => by
    rw [z] at neP
    exact absurd rfl neP
  have tabsOf : ∀ H : Hp, (∀ p ∈ [(cTo, PTo), (cFi, PFi)], H p.2 = some (.tbl #[])) → Tabs [(PTo, qTold), (PFi, qFilled)] H := fun H hT p hp => by
    simp only [List.mem_cons, List.not_mem_nil, or_false] at hp
    rcases hp with rfl | rfl
    · exact TabS.nil (hT (cTo, PTo) List.mem_cons_self)
    · exact TabS.nil (hT (cFi, PFi) (List.mem_cons_of_mem _ List.mem_cons_self))
  have hu1 : ∀ p ∈ [(PTo, qTold), (PFi, qFilled)], p.1 = PTo → p.2 = qTold := fun p hp e => by
    simp only [List.mem_cons, List.not_mem_nil, or_false] at hp
    rcases hp with rfl | rfl
    · rfl
    · exact absurd e.symm hne
  have hu2 : ∀ p ∈ [(PTo, qTold), (PFi, qFilled)], p.1 = PFi → p.2 = qFilled := fun p hp e => by
    simp only [List.mem_cons, List.not_mem_nil, or_false] at hp
    rcases hp with rfl | rfl
    · exact absurd e hne
    · rfl
  have both : ∀ {R : Addr × Addr → Prop}, R (cTo, PTo) → R (cFi, PFi) → ∀ p ∈ [(cTo, PTo), (cFi, PFi)], R p := fun {R} h1 h2 p hp => by
    simp only [List.mem_cons, List.not_mem_nil, or_false] at hp
    rcases hp with rfl | rfl
    · exact h1
    · exact h2
  refine ⟨PySem.W.fnOf "law" "law" (defArgs sLaw) (defBody sLaw) (defScope sLaw) .none kVLa dcLa pmLa anLa cdLa ctLa, [(cTo, PTo), (cFi, PFi)], spLaw K [(PTo, qTold), (PFi, qFilled)], ⟨both eTo eFi, both oTo oFi, both (codeHd_of_K X hTo) (codeHd_of_K X hFi)⟩, fun s v => .of_eq rfl,
    fun H a ns hl hT hS => ⟨a, ns, rfl, hS, hl, tabsOf H hT, fun _ => rfl⟩, fun base _ _ hTB => ?_⟩
  have tb1 := hTB (cTo, PTo) List.mem_cons_self
  have tb2 := hTB (cFi, PFi) (List.mem_cons_of_mem _ List.mem_cons_self)
  have OTa := ok_take (P := (PySem.Challenge.rw_runshown_k20_graphs_of_terms).prog) (w := w) (base := base) FTa TB
  have OSo := ok_some FSo TB (PySem.W.mg_of X G aTa) kTa bTa OTa
  have OB := ok_bag (P := (PySem.Challenge.rw_runshown_k20_graphs_of_terms).prog) (w := w) (base := base) FB (PySem.W.mg_none_of X G z_abs)
  have OMi := ok_mixed FMi TB (PySem.W.mg_of X G aTa) kTa bTa OTa
  have OA := ok_alike (P := (PySem.Challenge.rw_runshown_k20_graphs_of_terms).prog) (w := w) (base := base) FA (PySem.W.mg_none_of X G z_repr)
  have OHd := ok_head (P := (PySem.Challenge.rw_runshown_k20_graphs_of_terms).prog) (w := w) (base := base) FHd T
  have OIs := ok_isL FIs T OHd bHd mHd
  have OKe := ok_key FKe T OHd bHd mHd
  have OOp := ok_op FOp T OHd bHd mHd
  have OPa := ok_parts FPa T OHd bHd mHd
  have ONu := ok_num (P := (PySem.Challenge.rw_runshown_k20_graphs_of_terms).prog) (w := w) (base := base) FNu T
  have OLe := ok_let FLe T ONu bNu mNu
  have ONo := ok_node FNo T ONu bNu mNu OHd bHd mHd
  have OMa := ok_many (P := (PySem.Challenge.rw_runshown_k20_graphs_of_terms).prog) (w := w) (base := base) FMa T
  have OI := ok_init (P := (PySem.Challenge.rw_runshown_k20_graphs_of_terms).prog) (w := w) (base := base) FI T
  have ORo := ok_row FRo TB (PySem.W.mg_none_of X G z_tuple) (PySem.W.mg_none_of X G z_range) (PySem.W.mg_of X G aTa) kTa bTa OTa (PySem.W.mg_of X G aSo) kSo bSo OSo
  have OAs := ok_asked FAs T OLe bLe mLe ONo bNo mNo
  have OTo := ok_told FTo T TH (PySem.W.mg_none_of X G z_enumerate) FHe bHe (PySem.W.mg_of X G aHe) tb1 List.mem_cons_self hu1 OA (PySem.W.mg_of X G aA) kA bA OIs bIs mIs OPa bPa mPa OKe bKe mKe OOp bOp mOp ONo bNo mNo OMa bMa mMa
  have OFi := ok_filled (fIs := fIs) FFi T TH (PySem.W.mg_none_of X G z_range) FHe bHe (PySem.W.mg_of X G aHe) tb2 (List.mem_cons_of_mem _ List.mem_cons_self) hu2 OA (PySem.W.mg_of X G aA) kA bA OPa bPa mPa OOp bOp mOp ONo bNo mNo OMa bMa mMa OMi (PySem.W.mg_of X G aMi) kMi bMi OTa (PySem.W.mg_of X G aTa) kTa bTa OAs (PySem.W.mg_of X G aAs) kAs bAs
  exact ok_law FLa T (PySem.W.mg_none_of X G z_range) (PySem.W.mg_none_of X G z_list) ⟨mk, aI, iI, kc⟩ (PySem.W.mg_of X G aC) OI bI OB (PySem.W.mg_of X G aB) kB bB OA (PySem.W.mg_of X G aA) kA bA OTo (PySem.W.mg_of X G aTo) kTo bTo OFi (PySem.W.mg_of X G aFi) kFi bFi OMa bMa mMa OTa (PySem.W.mg_of X G aTa) kTa bTa ORo (PySem.W.mg_of X G aRo) kRo bRo OSo (PySem.W.mg_of X G aSo) kSo bSo OAs (PySem.W.mg_of X G aAs) kAs bAs
end Rs

open PySem PySem.W PyProof.Rows in
set_option maxRecDepth 100000 in
set_option maxHeartbeats 0 in
theorem PySem.Challenge.cw_runshown_k20_graphs_of_terms_holds : PySem.Challenge.rw_runshown_k20_graphs_of_terms.Holds := by
  w_on; o_law; k_head; (case hw => w_witness2)
  k_fill
  refine Rs.walkGT (l := PySem.Challenge.rw_runshown_k20_graphs_of_terms) (n := 63) (k := 9) (x := "script") rfl (by decide) rfl ⟨rfl, by decide, by decide⟩ (fun w h Y => PySem.W.km_in_of Y) ?F
  case F =>
    intro w mg fa h Y KX G hmg
    refine' Rs.all_mk (PTo := 212) (PFi := 219) KX G hmg ?aB ?lB ?c_B ?kB ?aTa ?lTa ?c_Ta ?kTa ?aSo ?lSo ?c_So ?kSo ?aMi ?lMi ?c_Mi ?kMi ?aA ?lA ?c_A ?kA ?aHe ?lHe ?c_He ?kHe ?aRo ?lRo ?c_Ro ?kRo ?aAs ?lAs ?c_As ?kAs ?aTo ?lTo ?c_To ?kTo ?hTo ?oTo ?eTo ?aFi ?lFi ?c_Fi ?kFi ?hFi ?oFi ?eFi ?aLa ?lLa ?c_La ?kLa ?aC ?aI ?iI ?lI ?c_I ?kI ?aMa ?iMa ?lMa ?c_Ma ?kMa ?aNu ?iNu ?lNu ?c_Nu ?kNu ?aLe ?iLe ?lLe ?c_Le ?kLe ?aNo ?iNo ?lNo ?c_No ?kNo ?aHd ?iHd ?lHd ?c_Hd ?kHd ?aIs ?iIs ?lIs ?c_Is ?kIs ?aKe ?iKe ?lKe ?c_Ke ?kKe ?aOp ?iOp ?lOp ?c_Op ?kOp ?aPa ?iPa ?lPa ?c_Pa ?kPa ?pg ?hd ?po ?sa ?mk ?kc ?nH ?nK ?z_len ?z_tuple ?z_range ?z_enumerate ?z_repr ?z_int ?z_abs ?z_list ?z_super ?mo ?aN ?xN ?kN ?sN ?tN ?aT ?xT ?rT ?gT ?saT ?gaT ?ggT ?nWT ?nLT ?iT ?tT ?kT ?eT ?vT ?yT ?dT ?mT ?stT ?xTT ?xNT ?xNN ?lT ?c_T ?lcT ?fiT ?ffT ?lcc ?tpT ?neP
    (case aB => k_is)
    (case lB => k_is)
    (case c_B => k_is)
    (case kB => k_is)
    (case aTa => k_is)
    (case lTa => k_is)
    (case c_Ta => k_is)
    (case kTa => k_is)
    (case aSo => k_is)
    (case lSo => k_is)
    (case c_So => k_is)
    (case kSo => k_is)
    (case aMi => k_is)
    (case lMi => k_is)
    (case c_Mi => k_is)
    (case kMi => k_is)
    (case aA => k_is)
    (case lA => k_is)
    (case c_A => k_is)
    (case kA => k_is)
    (case aHe => k_is)
    (case lHe => k_is)
    (case c_He => k_is)
    (case kHe => k_is)
    (case aRo => k_is)
    (case lRo => k_is)
    (case c_Ro => k_is)
    (case kRo => k_is)
    (case aAs => k_is)
    (case lAs => k_is)
    (case c_As => k_is)
    (case kAs => k_is)
    (case aTo => k_is)
    (case lTo => k_is)
    (case c_To => k_is)
    (case kTo => k_is)
    (case hTo => kernel_rfl)
    (case oTo => kernel_rfl)
    (case eTo => exact PySem.W.km_tabs_of Y _ (by k_mem))
    (case aFi => k_is)
    (case lFi => k_is)
    (case c_Fi => k_is)
    (case kFi => k_is)
    (case hFi => kernel_rfl)
    (case oFi => kernel_rfl)
    (case eFi => exact PySem.W.km_tabs_of Y _ (by k_mem))
    (case aLa => k_is)
    (case lLa => k_is)
    (case c_La => k_is)
    (case kLa => k_is)
    (case aC => k_is)
    (case aI => k_is)
    (case iI => k_is)
    (case lI => k_is)
    (case c_I => k_is)
    (case kI => k_is)
    (case aMa => k_is)
    (case iMa => k_is)
    (case lMa => k_is)
    (case c_Ma => k_is)
    (case kMa => k_is)
    (case aNu => k_is)
    (case iNu => k_is)
    (case lNu => k_is)
    (case c_Nu => k_is)
    (case kNu => k_is)
    (case aLe => k_is)
    (case iLe => k_is)
    (case lLe => k_is)
    (case c_Le => k_is)
    (case kLe => k_is)
    (case aNo => k_is)
    (case iNo => k_is)
    (case lNo => k_is)
    (case c_No => k_is)
    (case kNo => k_is)
    (case aHd => k_is)
    (case iHd => k_is)
    (case lHd => k_is)
    (case c_Hd => k_is)
    (case kHd => k_is)
    (case aIs => k_is)
    (case iIs => k_is)
    (case lIs => k_is)
    (case c_Is => k_is)
    (case kIs => k_is)
    (case aKe => k_is)
    (case iKe => k_is)
    (case lKe => k_is)
    (case c_Ke => k_is)
    (case kKe => k_is)
    (case aOp => k_is)
    (case iOp => k_is)
    (case lOp => k_is)
    (case c_Op => k_is)
    (case kOp => k_is)
    (case aPa => k_is)
    (case iPa => k_is)
    (case lPa => k_is)
    (case c_Pa => k_is)
    (case kPa => k_is)
    (case pg => k_is)
    (case hd => k_is)
    (case po => k_is)
    (case sa => k_is)
    (case mk => k_is)
    (case kc => k_is)
    (case nH => k_is)
    (case nK => k_is)
    (case z_len => k_is)
    (case z_tuple => k_is)
    (case z_range => k_is)
    (case z_enumerate => k_is)
    (case z_repr => k_is)
    (case z_int => k_is)
    (case z_abs => k_is)
    (case z_list => k_is)
    (case z_super => k_is)
    (case mo => k_is)
    (case aN => k_is)
    (case xN => kernel_rfl)
    (case kN => k_is)
    (case sN => k_is)
    (case tN => k_is)
    (case aT => k_is)
    (case xT => k_is)
    (case rT => first | rfl | kernel_rfl)
    (case gT => kernel_rfl)
    (case saT => k_is)
    (case gaT => k_is)
    (case ggT => k_is)
    (case nWT => k_is)
    (case nLT => k_is)
    (case iT => k_is)
    (case tT => k_is)
    (case kT => k_is)
    (case eT => k_is)
    (case vT => k_is)
    (case yT => k_is)
    (case dT => k_is)
    (case mT => k_is)
    (case stT => k_is)
    (case xTT => kernel_rfl)
    (case xNT => kernel_rfl)
    (case xNN => kernel_rfl)
    (case lT => k_is)
    (case c_T => k_is)
    (case lcT => k_is)
    (case fiT => first | rfl | k_is)
    (case ffT => first | rfl | decide +kernel | k_is)
    (case lcc => k_is)
    (case tpT => first | rfl | decide +kernel)
    (case neP => decide)

